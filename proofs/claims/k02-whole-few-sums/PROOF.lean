import PyProof.Rows.All
import Wide.All
import OpenK.AllK
import Wide.FinOn
import HandS.ForMost
import HandS.Exc
import HandS.TryOnly
import HandS.ExcOwn
import HandS.WordsExc
import HandS.Zip
import HandS.Walk
import HandS.AnyAll
import KE.KDictKeyed
import KE.KeyNested
import KE.KDictWalk
import KE.GoesEnum
import KE.GoesNew
import KE.GoesMore
import HandS.TupAny
import HandS.TupLe
import HandS.TupMul
import HandS.Deep
import HandS.SortInts
import HandS.IsInst
import HandS.Conv
import HandS.Nested
import KE.KDictDisplayH
import KE.GoesDict
import KE.GoesNewDict
import KE.SortData
import KE.KDictSum
import KE.DataCmp
import KE.KTupSum
import HandS.HeadHook4
import HandS.HeadWalk
import HandS.Flow
import HandS.TupSets
import HandS.Style
import HandS.Head0
import HandS.Head1
import HandS.Head2
import HandS.HeadEnd
import HandS.HeadHook1
import HandS.HeadHook2
import HandS.HeadHook3
import KE.KStateDown
import PySem.Challenge.RW_nolothome_k02_whole_few_sums
set_option Elab.async false
section
set_option Elab.async false
set_option linter.all false
set_option maxRecDepth 100000
set_option maxHeartbeats 2000000
namespace DL
open PySem PySem.Spec PyProof.Rows L2

/-! ### data without a heap -/
inductive D where
  | non | bl (b : Bool) | int (i : Int) | str (x : Str)
  | tup (xs : List D) | lst (xs : List D) | dct (kvs : List (D × D)) | op (v : V)
  deriving Inhabited

mutual
def D.key : D → Option NestedKey
  | .non => some .none
  | .int i => some (.num i)
  | .str x => some (.text x)
  | .tup xs => (D.keys xs).map .tup
  | _ => none
def D.keys : List D → Option (List NestedKey)
  | [] => some []
  | x :: xs => match D.key x, D.keys xs with
    | some k, some ks => some (k :: ks)
    | _, _ => none
end

/-! ### the heap bears it, and will bear it -/
section
variable (P : Program) (w : World) (K : PySem.W.Frag) (H : Hp)
abbrev KEnt := NestedKey × Addr × Value
def KOk (es : List KEnt) : Prop := (es.map (·.1)).Nodup ∧ ∀ e ∈ es, e.1.depth ≤ 8
def dctO (P : Program) (w : World) (a : Addr) (xs : List KEnt) (ep : Nat) : HO := .ext fun h => h.DictRaw a (xs.map (entryOfKey (nestedKind P w))).toArray ep
mutual
inductive Im : V → D → Prop
  | non : Im .non .non
  | bl (b : Bool) : Im (.bl b) (.bl b)
  | int (i : Int) : Im (.int i) (.int i)
  | str (x : Str) : Im (.str x) (.str x)
  | tup {a : Addr} {vs : List V} {xs : List D} : SqT K H a vs → ImL vs xs → Im (.ref a) (.tup xs)
  | lst {a : Addr} {vs : List V} {xs : List D} : (∃ o, H a = some (.frz o (.lst vs))) → ImL vs xs → Im (.ref a) (.lst xs)
  | dct {a : Addr} {es : List KEnt} {ep : Nat} {kvs : List (D × D)} : (∃ o, H a = some (.frz o (dctO P w a es ep))) → (a == sysModules) = false → KOk es → ImE es kvs → Im (.ref a) (.dct kvs)
  | op (v : V) : Im v (.op v)
inductive ImL : List V → List D → Prop
  | nil : ImL [] []
  | cons {v : V} {vs : List V} {x : D} {xs : List D} : Im v x → ImL vs xs → ImL (v :: vs) (x :: xs)
inductive ImE : List KEnt → List (D × D) → Prop
  | nil : ImE [] []
  | cons {e : KEnt} {es : List KEnt} {k v : D} {kvs : List (D × D)} {x : V} : k.key = some e.1 → Im (.ref e.2.1) k → RelV x e.2.2 → Im x v → ImE es kvs → ImE (e :: es) ((k, v) :: kvs)
end
end
end DL
end
section
set_option Elab.async false
set_option linter.all false
set_option maxRecDepth 100000
set_option maxHeartbeats 2000000
namespace DL
open PySem PySem.Spec PyProof.Rows L2

/-- what no step may touch: tuples, frozen things -/
structure Keep (H H' : Hp) : Prop where
  tup : ∀ a xs, H a = some (.tup xs) → H' a = some (.tup xs)
  frz : ∀ a o u, H a = some (.frz o u) → H' a = some (.frz o u)
theorem Keep.refl (H : Hp) : Keep H H := ⟨fun _ _ h => h, fun _ _ _ h => h⟩
theorem Keep.trans {H H1 H2 : Hp} (a : Keep H H1) (b : Keep H1 H2) : Keep H H2 := ⟨fun p xs h => b.tup p xs (a.tup p xs h), fun p o u h => b.frz p o u (a.frz p o u h)⟩
/-- all that is tracked stays, but tables may grow -/
structure Up (tb : List Addr) (H H' : Hp) : Prop where
  keep : ∀ a o, H a = some o → (∀ ps, o ≠ .tbl ps) → H' a = some o
  tbl : ∀ a ps, H a = some (.tbl ps) → ∃ ps', H' a = some (.tbl ps')
  tab : (∀ p ∈ tb, GxR.TabG H p) → ∀ p ∈ tb, GxR.TabG H' p
theorem Up.refl (tb : List Addr) (H : Hp) : Up tb H H := ⟨fun _ _ h _ => h, fun _ ps h => ⟨ps, h⟩, fun h => h⟩
theorem Up.trans {tb : List Addr} {H H1 H2 : Hp} (a : Up tb H H1) (b : Up tb H1 H2) : Up tb H H2 :=
  ⟨fun p o h n => b.keep p o (a.keep p o h n) n, fun p ps h => let ⟨q, e⟩ := a.tbl p ps h; b.tbl p q e, fun h => b.tab (a.tab h)⟩
theorem Up.toKeep {tb : List Addr} {H H' : Hp} (a : Up tb H H') : Keep H H' := ⟨fun p xs h => a.keep p _ h fun _ z => (by cases z), fun p o u h => a.keep p _ h fun _ z => (by cases z)⟩
theorem Up.none_of {tb : List Addr} {H H' : Hp} (a : Up tb H H') {p : Addr} (h : H' p = none) : H p = none := by
  cases e : H p with
  | none => rfl
  | some o =>
    cases o with
    | tbl ps =>
      obtain ⟨q, z⟩ := a.tbl p ps e
      rw [z] at h; cases h
    | _ =>
      have z := a.keep p _ e (fun _ z => by cases z)
      rw [z] at h; cases h
theorem Up.of_same {tb : List Addr} {H H' : Hp} (h : ∀ a o, H a = some o → H' a = some o) : Up tb H H' :=
  ⟨fun a o e _ => h a o e, fun a ps e => ⟨ps, h a _ e⟩, fun t p hp => let ⟨ps, e, z⟩ := t p hp; ⟨ps, h p _ e, z⟩⟩
theorem Up.new {tb : List Addr} {H : Hp} {p : Addr} {o : HO} (h : H p = none) : Up tb H (upd H p o) := Up.of_same fun a u e => by rw [upd_ne (ne_of_none e h)]; exact e
/-- an object that is neither a tuple, nor frozen, nor a table, is changed -/
theorem Keep.mut {H : Hp} {p : Addr} {o u : HO} (h : H p = some u) (h1 : ∀ xs, u ≠ .tup xs) (h2 : ∀ a b, u ≠ .frz a b) : Keep H (upd H p o) :=
  ⟨fun a xs e => by rw [upd_ne (ne_of e h (Ne.symm (h1 xs)))]; exact e, fun a x y e => by rw [upd_ne (ne_of e h (Ne.symm (h2 x y)))]; exact e⟩

section
variable {P : Program} {w : World} {K : PySem.W.Frag} {H H' : Hp}
theorem SqT.kept {a : Addr} {vs : List V} (k : Keep H H') (h : SqT K H a vs) : SqT K H' a vs := by
  rcases h with (h | ⟨o, h⟩) | h
  · exact .inl (.inl (k.tup a vs h))
  · exact .inl (.inr ⟨o, k.frz a o _ h⟩)
  · exact .inr h
mutual
theorem Im.keep (k : Keep H H') : ∀ {v : V} {d : D}, Im P w K H v d → Im P w K H' v d
  | _, _, .non => .non
  | _, _, .bl b => .bl b
  | _, _, .int i => .int i
  | _, _, .str x => .str x
  | _, _, .tup h r => .tup (SqT.kept k h) (ImL.keep k r)
  | _, _, .lst ⟨o, h⟩ r => .lst ⟨o, k.frz _ o _ h⟩ (ImL.keep k r)
  | _, _, .dct ⟨o, h⟩ n d r => .dct ⟨o, k.frz _ o _ h⟩ n d (ImE.keep k r)
  | _, _, .op v => .op v
theorem ImL.keep (k : Keep H H') : ∀ {vs : List V} {xs : List D}, ImL P w K H vs xs → ImL P w K H' vs xs
  | _, _, .nil => .nil
  | _, _, .cons a r => .cons (Im.keep k a) (ImL.keep k r)
theorem ImE.keep (k : Keep H H') : ∀ {es : List KEnt} {kvs : List (D × D)}, ImE P w K H es kvs → ImE P w K H' es kvs
  | _, _, .nil => .nil
  | _, _, .cons a b c d r => .cons a (Im.keep k b) c (Im.keep k d) (ImE.keep k r)
end
theorem ImL.length : ∀ {vs : List V} {xs : List D}, ImL P w K H vs xs → vs.length = xs.length
  | _, _, .nil => rfl
  | _, _, .cons _ r => by rw [List.length_cons, List.length_cons, ImL.length r]
theorem ImL.append : ∀ {vs us : List V} {xs ys : List D}, ImL P w K H vs xs → ImL P w K H us ys → ImL P w K H (vs ++ us) (xs ++ ys)
  | _, _, _, _, .nil, s => s
  | _, _, _, _, .cons a r, s => .cons a (ImL.append r s)
theorem ImL.get : ∀ {vs : List V} {xs : List D} {i : Nat} {v : V}, ImL P w K H vs xs → vs[i]? = some v → ∃ x, xs[i]? = some x ∧ Im P w K H v x
  | _, _, _, _, .nil, e => by simp at e
  | _, _, 0, _, .cons a _, e => by simp at e; subst e; exact ⟨_, rfl, a⟩
  | _, _, i + 1, _, .cons _ r, e => by simpa using ImL.get (i := i) r (by simpa using e)
theorem ImL.get' : ∀ {vs : List V} {xs : List D} {i : Nat} {x : D}, ImL P w K H vs xs → xs[i]? = some x → ∃ v, vs[i]? = some v ∧ Im P w K H v x
  | _, _, _, _, .nil, e => by simp at e
  | _, _, 0, _, .cons a _, e => by simp at e; subst e; exact ⟨_, rfl, a⟩
  | _, _, i + 1, _, .cons _ r, e => by simpa using ImL.get' (i := i) r (by simpa using e)
theorem ImL.set : ∀ {vs : List V} {xs : List D} {i : Nat} {v : V} {x : D}, ImL P w K H vs xs → Im P w K H v x → ImL P w K H (vs.set i v) (xs.set i x)
  | _, _, _, _, _, .nil, _ => .nil
  | _, _, 0, _, _, .cons _ r, b => .cons b r
  | _, _, i + 1, _, _, .cons a r, b => .cons a (ImL.set (i := i) r b)
theorem ImL.take : ∀ {vs : List V} {xs : List D} (n : Nat), ImL P w K H vs xs → ImL P w K H (vs.take n) (xs.take n)
  | _, _, 0, _ => .nil
  | _, _, _ + 1, .nil => .nil
  | _, _, n + 1, .cons a r => .cons a (ImL.take n r)
theorem ImL.drop : ∀ {vs : List V} {xs : List D} (n : Nat), ImL P w K H vs xs → ImL P w K H (vs.drop n) (xs.drop n)
  | _, _, 0, r => r
  | _, _, _ + 1, .nil => .nil
  | _, _, n + 1, .cons _ r => ImL.drop n r
theorem ImL.rev : ∀ {vs : List V} {xs : List D}, ImL P w K H vs xs → ImL P w K H vs.reverse xs.reverse
  | _, _, .nil => .nil
  | _, _, .cons a r => by rw [List.reverse_cons, List.reverse_cons]; exact (ImL.rev r).append (.cons a .nil)
end

/-! ### the slots -/
inductive Cell where
  | d (x : D) | l (xs : List D) | k (kvs : List (D × D))
def Cell.own : Cell → Prop
  | .d _ => False
  | _ => True
abbrev DEnv := List (Option Cell)
/-- a class and its fields -/
abbrev Exn := Str × List (Str × D)
inductive RS (α : Type) where
  | ok (a : α) (ρ : DEnv) | exc (e : Exn) (ρ : DEnv) | stuck
abbrev Act (α : Type) := DEnv → RS α
@[reducible] def Act.bind {α β : Type} (f : Act α) (k : α → Act β) : Act β := fun ρ => match f ρ with
  | .ok a ρ1 => k a ρ1
  | .exc e ρ1 => .exc e ρ1
  | .stuck => .stuck
inductive Out where
  | nx (ρ : DEnv) | rt (d : D) (ρ : DEnv) | bk (ρ : DEnv) | ct (ρ : DEnv) | exc (e : Exn) (ρ : DEnv) | stuck
abbrev GS := DEnv → Out

/-- the ground of a body: what stood at the entry but what the body owns; the tables; the owned first argument -/
structure BC where
  P : Program
  w : World
  K : PySem.W.Frag
  mg : Str → Option Value
  B : Hp
  tb : List Addr
  pin : Option V
structure XC where
  W : WX
  ok : Prop
abbrev XC.no : XC := ⟨fun _ _ _ _ => False, False⟩
abbrev BC.Im (b : BC) (H : Hp) : V → D → Prop := DL.Im b.P b.w b.K H
abbrev BC.ImL (b : BC) (H : Hp) : List V → List D → Prop := DL.ImL b.P b.w b.K H
abbrev BC.ImE (b : BC) (H : Hp) : List KEnt → List (D × D) → Prop := DL.ImE b.P b.w b.K H
def CellAt (b : BC) (H : Hp) (v : V) : Cell → Prop
  | .d x => b.Im H v x
  | .l xs => ∃ a vs, v = .ref a ∧ b.B a = none ∧ H a = some (.lst vs) ∧ b.ImL H vs xs
  | .k kvs => ∃ a es ep, v = .ref a ∧ b.B a = none ∧ H a = some (dctO b.P b.w a es ep) ∧ (a == sysModules) = false ∧ KOk es ∧ b.ImE H es kvs
structure At (b : BC) (σ : L2.St) (ρ : DEnv) (H : Hp) : Prop where
  ext : Up b.tb b.B H
  tab : ∀ p ∈ b.tb, GxR.TabG H p
  pin : ∀ v, b.pin = some v → σ[0]? = some (some v)
  len : σ.length = ρ.length
  cells : ∀ (i : Nat) x, ρ[i]? = some (some x) → ∃ v, σ[i]? = some (some v) ∧ CellAt b H v x
  apart : ∀ (i j : Nat) x y v, i ≠ j → ρ[i]? = some (some x) → ρ[j]? = some (some y) → x.own → y.own → σ[i]? = some (some v) → σ[j]? = some (some v) → False
def XcAt (b : BC) (H : Hp) (cls : Value) (dx : Option Addr) (e : Exn) : Prop :=
  b.mg e.1 = some cls ∧ match e.2 with
    | [] => dx = none
    | fs => ∃ d vs, dx = some d ∧ H d = some (.xd vs) ∧ vs.map (·.1) = fs.map (·.1) ∧ b.ImL H (vs.map (·.2)) (fs.map (·.2))

section
variable {b : BC} {σ : L2.St} {ρ : DEnv} {H H' : Hp}
theorem CellAt.up {v : V} {x : Cell} (u : Up b.tb H H') (h : CellAt b H v x) : CellAt b H' v x := by
  cases x with
  | d x => exact Im.keep u.toKeep h
  | l xs =>
    obtain ⟨a, vs, e, n, hl, r⟩ := h
    exact ⟨a, vs, e, n, u.keep a _ hl (fun _ z => by cases z), ImL.keep u.toKeep r⟩
  | k kvs =>
    obtain ⟨a, es, ep, e, n, hl, s, d, r⟩ := h
    exact ⟨a, es, ep, e, n, u.keep a _ hl (fun _ z => by cases z), s, d, ImE.keep u.toKeep r⟩
theorem At.up (h : At b σ ρ H) (u : Up b.tb H H') : At b σ ρ H' :=
  ⟨h.ext.trans u, u.tab h.tab, h.pin, h.len, fun i x e => let ⟨v, hv, c⟩ := h.cells i x e; ⟨v, hv, c.up u⟩, h.apart⟩
/-- x := data -/
theorem At.set {i : Nat} {v : V} {x : D} (h : At b σ ρ H) (hp : b.pin = none ∨ i ≠ 0) (r : b.Im H v x) : At b (σ.set i (some v)) (ρ.set i (some (.d x))) H where
  ext := h.ext
  tab := h.tab
  pin := fun u e => by
    rcases hp with hp | hp
    · rw [hp] at e; cases e
    · rw [List.getElem?_set_ne hp]; exact h.pin u e
  len := by rw [List.length_set, List.length_set]; exact h.len
  cells := fun j y e => by
    by_cases hj : i = j
    · subst hj
      have hl : i < ρ.length := by
        have := (List.getElem?_eq_some_iff.mp e).1
        rwa [List.length_set] at this
      rw [List.getElem?_set_self hl] at e
      cases e
      exact ⟨v, by rw [List.getElem?_set_self (by rw [h.len]; exact hl)], r⟩
    · rw [List.getElem?_set_ne hj] at e
      obtain ⟨u, hu, c⟩ := h.cells j y e
      exact ⟨u, by rw [List.getElem?_set_ne hj]; exact hu, c⟩
  apart := fun j k y z u hjk e1 e2 o1 o2 f1 f2 => by
    by_cases hj : i = j
    · subst hj
      by_cases hl : i < ρ.length
      · rw [List.getElem?_set_self hl] at e1; cases e1; exact o1
      · rw [List.getElem?_eq_none (by simp; omega)] at e1; cases e1
    · by_cases hk : i = k
      · subst hk
        by_cases hl : i < ρ.length
        · rw [List.getElem?_set_self hl] at e2; cases e2; exact o2
        · rw [List.getElem?_eq_none (by simp; omega)] at e2; cases e2
      · rw [List.getElem?_set_ne hj] at e1 f1
        rw [List.getElem?_set_ne hk] at e2 f2
        exact h.apart j k y z u hjk e1 e2 o1 o2 f1 f2
/-- a slot's value forgotten -/
theorem At.forget {i : Nat} (h : At b σ ρ H) : At b σ (ρ.set i none) H where
  ext := h.ext
  tab := h.tab
  pin := h.pin
  len := by rw [List.length_set]; exact h.len
  cells := fun j y e => by
    by_cases hj : i = j
    · subst hj
      by_cases hl : i < ρ.length
      · rw [List.getElem?_set_self hl] at e; cases e
      · rw [List.getElem?_eq_none (by simp; omega)] at e; cases e
    · rw [List.getElem?_set_ne hj] at e
      exact h.cells j y e
  apart := fun j k y z u hjk e1 e2 => by
    by_cases hj : i = j
    · subst hj
      by_cases hl : i < ρ.length
      · rw [List.getElem?_set_self hl] at e1; cases e1
      · rw [List.getElem?_eq_none (by simp; omega)] at e1; cases e1
    · by_cases hk : i = k
      · subst hk
        by_cases hl : i < ρ.length
        · rw [List.getElem?_set_self hl] at e2; cases e2
        · rw [List.getElem?_eq_none (by simp; omega)] at e2; cases e2
      · rw [List.getElem?_set_ne hj] at e1
        rw [List.getElem?_set_ne hk] at e2
        exact h.apart j k y z u hjk e1 e2
def wipeD (ρ : DEnv) : List Nat → DEnv
  | [] => ρ
  | v :: vs => (wipeD ρ vs).set v none
/-- slot i is empty on both sides -/
theorem At.empty {i : Nat} (h : At b σ ρ H) (hp : b.pin = none ∨ i ≠ 0) : At b (σ.set i none) (ρ.set i none) H where
  ext := h.ext
  tab := h.tab
  pin := fun u e => by
    rcases hp with hp | hp
    · rw [hp] at e; cases e
    · rw [List.getElem?_set_ne hp]; exact h.pin u e
  len := by rw [List.length_set, List.length_set]; exact h.len
  cells := fun j y e => by
    by_cases hj : i = j
    · subst hj
      by_cases hl : i < ρ.length
      · rw [List.getElem?_set_self hl] at e; cases e
      · rw [List.getElem?_eq_none (by simp; omega)] at e; cases e
    · rw [List.getElem?_set_ne hj] at e
      obtain ⟨u, hu, c⟩ := h.cells j y e
      exact ⟨u, by rw [List.getElem?_set_ne hj]; exact hu, c⟩
  apart := fun j k y z u hjk e1 e2 o1 o2 f1 f2 => by
    by_cases hj : i = j
    · subst hj
      by_cases hl : i < ρ.length
      · rw [List.getElem?_set_self hl] at e1; cases e1
      · rw [List.getElem?_eq_none (by simp; omega)] at e1; cases e1
    · by_cases hk : i = k
      · subst hk
        by_cases hl : i < ρ.length
        · rw [List.getElem?_set_self hl] at e2; cases e2
        · rw [List.getElem?_eq_none (by simp; omega)] at e2; cases e2
      · rw [List.getElem?_set_ne hj] at e1 f1
        rw [List.getElem?_set_ne hk] at e2 f2
        exact h.apart j k y z u hjk e1 e2 o1 o2 f1 f2
theorem At.wipe (h : At b σ ρ H) : ∀ {vs : List Nat}, (b.pin = none ∨ 0 ∉ vs) → At b (wipe σ vs) (wipeD ρ vs) H
  | [], _ => h
  | v :: vs, hp => At.empty (At.wipe h (vs := vs) (hp.imp_right fun z q => z (List.mem_cons_of_mem _ q))) (hp.imp_right fun z q => z (by rw [q]; exact List.mem_cons_self))

theorem CellAt.mut {p : Addr} {o u : HO} {v : V} {x : Cell} (hp : H p = some u) (h1 : ∀ xs, u ≠ .tup xs) (h2 : ∀ a b, u ≠ .frz a b) (h : CellAt b H v x) (hv : x.own → v ≠ .ref p) : CellAt b (upd H p o) v x := by
  have k := Keep.mut (o := o) hp h1 h2
  cases x with
  | d x => exact Im.keep k h
  | l xs =>
    obtain ⟨a, vs, e, n, hl, r⟩ := h
    exact ⟨a, vs, e, n, by rw [upd_ne (fun z => hv trivial (by rw [e, z]))]; exact hl, ImL.keep k r⟩
  | k kvs =>
    obtain ⟨a, es, ep, e, n, hl, s, d, r⟩ := h
    exact ⟨a, es, ep, e, n, by rw [upd_ne (fun z => hv trivial (by rw [e, z]))]; exact hl, s, d, ImE.keep k r⟩
/-- the owned thing at p, in slot i, is changed -/
theorem At.mutate {i : Nat} {p : Addr} {o u : HO} {x y : Cell} (h : At b σ ρ H) (hi : ρ[i]? = some (some x)) (ox : x.own) (hs : σ[i]? = some (some (.ref p))) (hB : b.B p = none)
    (hp : H p = some u) (h1 : ∀ xs, u ≠ .tup xs) (h2 : ∀ a b, u ≠ .frz a b) (h3 : ∀ ps, u ≠ .tbl ps) (hy : CellAt b (upd H p o) (.ref p) y) (oy : y.own) : At b σ (ρ.set i (some y)) (upd H p o) where
  ext := ⟨fun a z e n => by rw [upd_ne (ne_of_none e hB)]; exact h.ext.keep a z e n, fun a ps e => by rw [upd_ne (ne_of_none e hB)]; exact h.ext.tbl a ps e, fun t q hq => by
    obtain ⟨ps, e, z⟩ := h.tab q hq
    exact ⟨ps, by rw [upd_ne (ne_of e hp (Ne.symm (h3 ps)))]; exact e, z⟩⟩
  tab := fun q hq => by
    obtain ⟨ps, e, z⟩ := h.tab q hq
    exact ⟨ps, by rw [upd_ne (ne_of e hp (Ne.symm (h3 ps)))]; exact e, z⟩
  pin := h.pin
  len := by rw [List.length_set]; exact h.len
  cells := fun j z e => by
    by_cases hj : i = j
    · subst hj
      have hl : i < ρ.length := by
        have := (List.getElem?_eq_some_iff.mp e).1
        rwa [List.length_set] at this
      rw [List.getElem?_set_self hl] at e
      cases e
      exact ⟨_, hs, hy⟩
    · rw [List.getElem?_set_ne hj] at e
      obtain ⟨v, hv, c⟩ := h.cells j z e
      exact ⟨v, hv, c.mut hp h1 h2 fun oz q => h.apart i j x z v hj hi e ox oz (by rw [hs, q]) hv⟩
  apart := fun j k y' z v hjk e1 e2 o1 o2 f1 f2 => by
    have tr : ∀ {m : Nat} {c : Cell}, (ρ.set i (some y))[m]? = some (some c) → c.own → ∃ c', ρ[m]? = some (some c') ∧ c'.own := fun {m c} e oc => by
      by_cases hm : i = m
      · subst hm; exact ⟨x, hi, ox⟩
      · rw [List.getElem?_set_ne hm] at e; exact ⟨c, e, oc⟩
    obtain ⟨c1, g1, k1⟩ := tr e1 o1
    obtain ⟨c2, g2, k2⟩ := tr e2 o2
    exact h.apart j k c1 c2 v hjk g1 g2 k1 k2 f1 f2
/-- a new thing is owned by slot i -/
theorem At.adopt {i : Nat} {p : Addr} {y : Cell} (h : At b σ ρ H) (hp : b.pin = none ∨ i ≠ 0) (hn : ∀ (j : Nat) (x : Cell), ρ[j]? = some (some x) → x.own → σ[j]? ≠ some (some (V.ref p))) (hy : CellAt b H (.ref p) y) :
    At b (σ.set i (some (.ref p))) (ρ.set i (some y)) H where
  ext := h.ext
  tab := h.tab
  pin := fun u e => by
    rcases hp with hp | hp
    · rw [hp] at e; cases e
    · rw [List.getElem?_set_ne hp]; exact h.pin u e
  len := by rw [List.length_set, List.length_set]; exact h.len
  cells := fun j z e => by
    by_cases hj : i = j
    · subst hj
      have hl : i < ρ.length := by
        have := (List.getElem?_eq_some_iff.mp e).1
        rwa [List.length_set] at this
      rw [List.getElem?_set_self hl] at e
      cases e
      exact ⟨_, by rw [List.getElem?_set_self (by rw [h.len]; exact hl)], hy⟩
    · rw [List.getElem?_set_ne hj] at e
      obtain ⟨u, hu, c⟩ := h.cells j z e
      exact ⟨u, by rw [List.getElem?_set_ne hj]; exact hu, c⟩
  apart := fun j k y1 z u hjk e1 e2 o1 o2 f1 f2 => by
    have ns : ∀ {m : Nat} {v : V}, (σ.set i (some (.ref p)))[m]? = some (some v) → i = m → v = .ref p := fun {m v} f hm => by
      subst hm
      by_cases hl : i < σ.length
      · rw [List.getElem?_set_self hl] at f; cases f; rfl
      · rw [List.getElem?_eq_none (by simp; omega)] at f; cases f
    by_cases hj : i = j
    · have hk : i ≠ k := fun z => hjk (hj.symm.trans z)
      rw [List.getElem?_set_ne hk] at e2 f2
      have := ns f1 hj
      subst this
      exact hn k z e2 o2 f2
    · rw [List.getElem?_set_ne hj] at e1 f1
      by_cases hk : i = k
      · have := ns f2 hk
        subst this
        exact hn j y1 e1 o1 f1
      · rw [List.getElem?_set_ne hk] at e2 f2
        exact h.apart j k y1 z u hjk e1 e2 o1 o2 f1 f2
end
end DL
end
section
set_option Elab.async false
set_option linter.all false
set_option maxRecDepth 100000
set_option maxHeartbeats 2000000
namespace DL
open PySem PySem.Spec PyProof.Rows L2

theorem _root_.L2.PE.mono {X : Cx} {e : Expr} {t t' : TE} (h : PE X e t) (m : ∀ σ H Q, t' σ H Q → t σ H Q) : PE X e t' := ⟨fun pins s σ H Q I q => h.run pins s σ H Q I (m σ H Q q)⟩
theorem _root_.L2.PT.mono {X : Cx} {e : Expr} {t t' : TT} (h : PT X e t) (m : ∀ σ H Q, t' σ H Q → t σ H Q) : PT X e t' := ⟨fun pins s σ H Q I q => h.run pins s σ H Q I (m σ H Q q)⟩
theorem _root_.L2.PW.mono {X : Cx} {e : Expr} {t t' : TT} (h : PW X e t) (m : ∀ σ H Q, t' σ H Q → t σ H Q) : PW X e t' := ⟨fun wh pins s σ H Q I q => h.run wh pins s σ H Q I (m σ H Q q)⟩
theorem _root_.L2.PA.mono {X : Cx} {e : List Expr} {t t' : TA} (h : PA X e t) (m : ∀ σ H Q, t' σ H Q → t σ H Q) : PA X e t' := ⟨fun pos pins s σ H Q I q => h.run pos pins s σ H Q I (m σ H Q q)⟩
theorem _root_.L2.PS.mono {X : Cx} {e : Stmt} {t t' : TS} (h : PS X e t) (m : ∀ D σ H, t' D σ H → t D σ H) : PS X e t' := ⟨fun pins s σ H D I q => h.run pins s σ H D I (m D σ H q)⟩
theorem _root_.L2.PSs.mono {X : Cx} {e : List Stmt} {t t' : TS} (h : PSs X e t) (m : ∀ D σ H, t' D σ H → t D σ H) : PSs X e t' := ⟨fun pins s σ H D I q => h.run pins s σ H D I (m D σ H q)⟩

def Go {α : Type} (b : BC) (x : XC) (σ : L2.St) (H : Hp) (r : RS α) (Q : α → DEnv → Prop) : Prop := match r with
  | .ok a ρ => Q a ρ
  | .exc e ρ => x.ok ∧ ∀ cls dx H', At b σ ρ H' → Keep H H' → XcAt b H' cls dx e → x.W cls dx σ H'
  | .stuck => False
/-- an expression that gives data -/
def tD (b : BC) (x : XC) (f : Act D) : TE := fun σ H Q => ∃ ρ, At b σ ρ H ∧ Go b x σ H (f ρ) fun d ρ' => ∀ v H', At b σ ρ' H' → Keep H H' → b.Im H' v d → Q v H'
/-- a test -/
def tT (b : BC) (x : XC) (f : Act Bool) : TT := fun σ H Q => ∃ ρ, At b σ ρ H ∧ Go b x σ H (f ρ) fun c ρ' => ∀ H', At b σ ρ' H' → Keep H H' → Q c H'
/-- arguments -/
def tL (b : BC) (x : XC) (f : Act (List D)) : TA := fun σ H Q => ∃ ρ, At b σ ρ H ∧ Go b x σ H (f ρ) fun ds ρ' => ∀ vs H', At b σ ρ' H' → Keep H H' → b.ImL H' vs ds → Q vs H'
/-- a new list -/
def tF (b : BC) (x : XC) (f : Act (List D)) : TE := fun σ H Q => ∃ ρ, At b σ ρ H ∧ Go b x σ H (f ρ) fun ds ρ' => ∀ p vs H', At b σ ρ' H' → Keep H H' → b.B p = none → (∀ (j : Nat) (y : Cell), ρ'[j]? = some (some y) → y.own → σ[j]? ≠ some (some (V.ref p))) → H' p = some (.lst vs) → b.ImL H' vs ds → Q (.ref p) H'
def GoS (b : BC) (x : XC) (H : Hp) (o : Out) (E : Ends) : Prop := match o with
  | .nx ρ => ∀ σ H', At b σ ρ H' → Keep H H' → E.nx σ H'
  | .bk ρ => ∀ σ H', At b σ ρ H' → Keep H H' → E.bk σ H'
  | .ct ρ => ∀ σ H', At b σ ρ H' → Keep H H' → E.ct σ H'
  | .rt d ρ => ∀ v σ H', At b σ ρ H' → Keep H H' → b.Im H' v d → E.rt v H'
  | .exc e ρ => x.ok ∧ ∀ cls dx σ H', At b σ ρ H' → Keep H H' → XcAt b H' cls dx e → x.W cls dx σ H'
  | .stuck => False
/-- a statement -/
def tS (b : BC) (x : XC) (g : GS) : TS := fun E σ H => ∃ ρ, At b σ ρ H ∧ GoS b x H (g ρ) E

section
variable {b : BC} {x : XC} {σ : L2.St} {ρ : DEnv} {H H' : Hp}
theorem Go.bind {α β : Type} {f : Act α} {k : α → Act β} {Q : β → DEnv → Prop} (h : Go b x σ H (f.bind k ρ) Q) : Go b x σ H (f ρ) fun a ρ1 => Go b x σ H (k a ρ1) Q := by
  unfold Act.bind at h
  cases e : f ρ with
  | ok a ρ1 => rw [e] at h; exact h
  | exc e' ρ1 => rw [e] at h; exact h
  | stuck => rw [e] at h; exact h
theorem Go.keep {α : Type} {r : RS α} {Q : α → DEnv → Prop} (k : Keep H H') (h : Go b x σ H r Q) : Go b x σ H' r Q := by
  cases r with
  | ok a ρ1 => exact h
  | exc e' ρ1 => exact ⟨h.1, fun cls dx H2 a k2 => h.2 cls dx H2 a (k.trans k2)⟩
  | stuck => exact h
theorem Go.imp {α : Type} {r : RS α} {Q Q' : α → DEnv → Prop} (h : Go b x σ H r Q) (m : ∀ a ρ, Q a ρ → Q' a ρ) : Go b x σ H r Q' := by
  cases r with
  | ok a ρ1 => exact m _ _ h
  | exc e' ρ1 => exact h
  | stuck => exact h
theorem GoS.keep {o : Out} {E : Ends} (k : Keep H H') (h : GoS b x H o E) : GoS b x H' o E := by
  cases o with
  | nx ρ => exact fun s H2 a k2 => h s H2 a (k.trans k2)
  | bk ρ => exact fun s H2 a k2 => h s H2 a (k.trans k2)
  | ct ρ => exact fun s H2 a k2 => h s H2 a (k.trans k2)
  | rt d ρ => exact fun v s H2 a k2 => h v s H2 a (k.trans k2)
  | exc e ρ => exact ⟨h.1, fun c d s H2 a k2 => h.2 c d s H2 a (k.trans k2)⟩
  | stuck => exact h
/-- first f, then what follows -/
theorem tD_step {α : Type} {f : Act D} {k : D → Act α} {Q : α → DEnv → Prop} {R : VK} {H0 : Hp} (k0 : Keep H0 H) (a : At b σ ρ H) (h : Go b x σ H0 (f.bind k ρ) Q)
    (hk : ∀ d ρ1 v H1, At b σ ρ1 H1 → Keep H H1 → b.Im H1 v d → Go b x σ H0 (k d ρ1) Q → R v H1) : tD b x f σ H R :=
  ⟨ρ, a, (h.bind.keep k0).imp fun d ρ1 h1 v H1 a1 k1 i1 => hk d ρ1 v H1 a1 k1 i1 h1⟩
theorem tT_step {α : Type} {f : Act Bool} {k : Bool → Act α} {Q : α → DEnv → Prop} {R : Bool → Hp → Prop} {H0 : Hp} (k0 : Keep H0 H) (a : At b σ ρ H) (h : Go b x σ H0 (f.bind k ρ) Q)
    (hk : ∀ d ρ1 H1, At b σ ρ1 H1 → Keep H H1 → Go b x σ H0 (k d ρ1) Q → R d H1) : tT b x f σ H R :=
  ⟨ρ, a, (h.bind.keep k0).imp fun d ρ1 h1 H1 a1 k1 => hk d ρ1 H1 a1 k1 h1⟩
theorem tL_step {α : Type} {f : Act (List D)} {k : List D → Act α} {Q : α → DEnv → Prop} {R : List V → Hp → Prop} {H0 : Hp} (k0 : Keep H0 H) (a : At b σ ρ H) (h : Go b x σ H0 (f.bind k ρ) Q)
    (hk : ∀ d ρ1 v H1, At b σ ρ1 H1 → Keep H H1 → b.ImL H1 v d → Go b x σ H0 (k d ρ1) Q → R v H1) : tL b x f σ H R :=
  ⟨ρ, a, (h.bind.keep k0).imp fun d ρ1 h1 v H1 a1 k1 i1 => hk d ρ1 v H1 a1 k1 i1 h1⟩
end

/-! ### frozen -/
theorem _root_.L2.Inv.freeze {X : Cx} {pins : List (Addr × Obj)} {σ : L2.St} {H : Hp} {s : Shared} {a : Addr} {u : HO} (I : Inv X pins σ H s) (h : H a = some u) (hm : Mut (some u)) (hown : ∀ C dx fs, u ≠ .ins C dx fs) : ∃ o, Inv X pins σ (upd H a (.frz o u)) s := by
  have ok := I.hok a u h
  obtain ⟨o, ho⟩ : ∃ o, s.heap.get? a = some o := by
    cases u with
    | lst xs => obtain ⟨_, _, _, _, e⟩ := ok; exact ⟨_, e⟩
    | dK kvs => obtain ⟨_, _, _, _, o, _, _, e, _⟩ := ok; exact ⟨_, e⟩
    | dT kvs => obtain ⟨_, _, _, _, o, _, _, e, _⟩ := ok; exact ⟨_, e⟩
    | set S n => obtain ⟨o, _, _, _, e, _⟩ := ok; exact ⟨_, e⟩
    | ins C dx fs => exact absurd rfl (hown C dx fs)
    | ext f => obtain ⟨_, ⟨o, e⟩, _⟩ := ok; exact ⟨_, e⟩
    | _ => exact hm.elim
  refine ⟨o, I.un (t' := s.toks) (h' := s.heap) ⟨fun c v q _ _ _ => q, fun c v q _ _ _ => ⟨v.slots, q⟩, fun c v q n _ => by rw [upd_ne (fun z => by rw [z, h] at n; cases n)]; exact n, fun c v q _ => ⟨v, q⟩, fun c xs q => ?_, fun c v z q => ?_, fun c ps q => ⟨#[], ?_⟩⟩ fun c v q => ?_⟩
  · rw [upd_ne (fun z => by rw [z, h] at q; cases q; exact hm)]; exact q
  · rw [upd_ne (fun z => by rw [z, h] at q; cases q; exact hm)]; exact q
  · rw [upd_ne (fun z => by rw [z, h] at q; cases q; exact hm), q]; simp
  · have tr : ∀ {c : Addr} {z : HO}, ObjOk X.prog X.w H s.heap c z → ObjOk X.prog X.w (upd H a (.frz o u)) s.heap c z := fun {c z} k =>
      k.stay (fun _ _ _ r => r) (fun d r => by rw [upd_ne (fun z => by rw [z, h] at r; cases r; exact hm)]; exact r) fun d xs r => by rw [upd_ne (fun z => by rw [z, h] at r; cases r; exact hm)]; exact r
    by_cases hc : c = a
    · subst hc
      rw [upd_same] at q; cases q
      exact ⟨ho, tr ok⟩
    · rw [upd_ne hc] at q
      exact tr (I.hok c v q)
/-- what is given may be frozen -/
def Frz (v : V) (H : Hp) (Q : VK) : Prop := Q v H ∨ ∃ a u, v = .ref a ∧ H a = some u ∧ Mut (some u) ∧ (∀ C dx fs, u ≠ .ins C dx fs) ∧ ∀ o, Q v (upd H a (.frz o u))
theorem pe_frz {X : Cx} {e : Expr} {t : TE} (h : PE X e t) : PE X e (fun σ H Q => t σ H fun v H1 => Frz v H1 Q) := ⟨fun pins s σ H Q I q => thn (h.run pins s σ H _ I q) fun u s1 ⟨v, H1, I1, r1, q1⟩ => by
  rcases q1 with q1 | ⟨a, o, rfl, ha, hm, ho, q1⟩
  · exact ⟨v, H1, I1, r1, q1⟩
  · obtain ⟨ob, I2⟩ := I1.freeze ha hm ho
    exact ⟨_, _, I2, r1, q1 ob⟩⟩
end DL
end
section
set_option Elab.async false
set_option linter.all false
set_option maxRecDepth 100000
set_option maxHeartbeats 2000000
namespace DL
open PySem PySem.Spec PyProof.Rows L2

/-! ### the words of a reading -/
@[reducible] def aC (d : D) : Act D := fun ρ => .ok d ρ
def aV (i : Nat) : Act D := fun ρ => match ρ[i]? with
  | some (some (.d x)) => .ok x ρ
  | _ => .stuck
def lift {α : Type} (o : Option α) : Act α := fun ρ => match o with
  | some a => .ok a ρ
  | none => .stuck
@[reducible] def a1 (op : D → Option D) (f : Act D) : Act D := f.bind fun x => lift (op x)
@[reducible] def a2 (op : D → D → Option D) (f g : Act D) : Act D := f.bind fun x => g.bind fun y => lift (op x y)
@[reducible] def aNil : Act (List D) := fun ρ => .ok [] ρ
@[reducible] def aCons (f : Act D) (g : Act (List D)) : Act (List D) := f.bind fun x => g.bind fun xs => fun ρ => .ok (x :: xs) ρ
@[reducible] def aN (op : List D → Option D) (g : Act (List D)) : Act D := g.bind fun xs => lift (op xs)
def dTup (xs : List D) : Option D := if xs.length ≤ 16000000 then some (.tup xs) else none
def dLst (xs : List D) : Option D := if xs.length ≤ 16000000 then some (.lst xs) else none
theorem size_line {n : Nat} (h : n ≤ 16000000) : n ≤ sizeLine := by rw [sizeLine_eq]; omega
@[reducible] def cI (c : Act Bool) (f g : Act D) : Act D := c.bind fun k => if k = true then f else g
@[reducible] def cNot (c : Act Bool) : Act Bool := c.bind fun k => fun ρ => .ok (!k) ρ
@[reducible] def cAnd (c d : Act Bool) : Act Bool := c.bind fun k => if k = true then d else fun ρ => .ok false ρ
@[reducible] def cOr (c d : Act Bool) : Act Bool := c.bind fun k => if k = true then fun ρ => .ok true ρ else d
def asB : D → Option Bool
  | .bl k => some k
  | _ => none
@[reducible] def cB (f : Act D) : Act Bool := f.bind fun x => lift (asB x)
@[reducible] def bD (c : Act Bool) : Act D := c.bind fun k => fun ρ => .ok (.bl k) ρ

/-- what an answer may be used for -/
abbrev Fin (b : BC) (H : Hp) (Q : VK) (d : D) : Prop := ∀ v H', Up b.tb H H' → b.Im H' v d → Q v H'
section
variable {b : BC} {H : Hp} {Q : VK}
theorem fin_val {v : V} {d : D} (q : Fin b H Q d) (i : b.Im H v d) : Frz v H Q := .inl (q v H (Up.refl _ _) i)
theorem fin_tup {p : Addr} {vs : List V} {xs : List D} (q : Fin b H Q (.tup xs)) (hp : H p = none) (i : b.ImL H vs xs) : Frz (.ref p) (upd H p (.tup vs)) Q :=
  have u : Up b.tb H (upd H p (.tup vs)) := Up.new hp
  .inl (q _ _ u (.tup (SqT.of upd_same) (ImL.keep u.toKeep i)))
theorem fin_lst {p : Addr} {vs : List V} {xs : List D} (q : Fin b H Q (.lst xs)) (hp : H p = none) (i : b.ImL H vs xs) : Frz (.ref p) (upd H p (.lst vs)) Q :=
  .inr ⟨p, _, rfl, upd_same, trivial, (fun _ _ _ z => by cases z), fun o => by
    rw [upd_upd]
    have u : Up b.tb H (upd H p (.frz o (.lst vs))) := Up.new hp
    exact q _ _ u (.lst ⟨o, upd_same⟩ (ImL.keep u.toKeep i))⟩
end
/-- an operation on values tells an operation on data -/
def Sd1 (b : BC) (r : V → Hp → VK → Prop) (op : D → Option D) : Prop := ∀ H x dx d Q, b.Im H x dx → op dx = some d → Fin b H Q d → r x H fun v H1 => Frz v H1 Q
def Sd2 (b : BC) (r : R2) (op : D → D → Option D) : Prop := ∀ H x y dx dy d Q, b.Im H x dx → b.Im H y dy → op dx dy = some d → Fin b H Q d → r x y H fun v H1 => Frz v H1 Q
def SdN (b : BC) (r : List V → Hp → VK → Prop) (op : List D → Option D) : Prop := ∀ H xs ds d Q, b.ImL H xs ds → op ds = some d → Fin b H Q d → r xs H fun v H1 => Frz v H1 Q
/-- a method of data: receiver and arguments -/
def SdM (b : BC) (T : String) (r : V → List V → Hp → VK → Prop) (op : D → List D → Option D) : Prop :=
  ∀ H x xs dx ds d Q, b.Im H x dx → b.ImL H xs ds → op dx ds = some d → Fin b H Q d → r x xs H fun v H1 => Frz v H1 Q
theorem lift_go {b : BC} {x : XC} {α : Type} {σ : L2.St} {ρ : DEnv} {H : Hp} {o : Option α} {Q : α → DEnv → Prop} (h : Go b x σ H (lift o ρ) Q) : ∃ a, o = some a ∧ Q a ρ := by
  cases o with
  | some a => exact ⟨a, rfl, h⟩
  | none => exact h.elim

section
variable {X : Cx} {b : BC} {x : XC} {e a c : Expr} {es : List Expr} {pos : Pos} {f g k : Act D} {fs : Act (List D)}
theorem px_int {i j} : PE X (.Constant (.int i) j pos) (tD b x (aC (.int i))) := pe_int.mono fun σ H Q ⟨ρ, a, h⟩ => h _ _ a (Keep.refl H) (.int i)
theorem px_bl {i j} : PE X (.Constant (.bool i) j pos) (tD b x (aC (.bl i))) := pe_bl.mono fun σ H Q ⟨ρ, a, h⟩ => h _ _ a (Keep.refl H) (.bl i)
theorem px_non {j} : PE X (.Constant .none j pos) (tD b x (aC .non)) := pe_non.mono fun σ H Q ⟨ρ, a, h⟩ => h _ _ a (Keep.refl H) .non
theorem px_str {i j} : PE X (.Constant (.str i) j pos) (tD b x (aC (.str i))) := pe_str.mono fun σ H Q ⟨ρ, a, h⟩ => h _ _ a (Keep.refl H) (.str i)
/-- a slot that holds data -/
theorem px_v (i : Nat) (h : PE X e (tVar i)) : PE X e (tD b x (aV i)) := h.mono fun σ H Q ⟨ρ, a, q⟩ => by
  unfold aV at q
  split at q
  · rename_i d hd
    obtain ⟨v, hv, cv⟩ := a.cells i _ hd
    exact ⟨v, hv, q v H a (Keep.refl H) cv⟩
  · exact q.elim
/-- a global that is a value -/
theorem px_op {v : V} (h : PE X e (tC v)) : PE X e (tD b x (aC (.op v))) := h.mono fun σ H Q ⟨ρ, a, q⟩ => q v H a (Keep.refl H) (.op v)
theorem px_gl {v : V} {d : D} (h : PE X e (tC v)) (i : ∀ H, b.Im H v d) : PE X e (tD b x (aC d)) := h.mono fun σ H Q ⟨ρ, a, q⟩ => q v H a (Keep.refl H) (i H)
theorem px_nil : PA X [] (tL b x aNil) := pa_nil.mono fun σ H Q ⟨ρ, a, h⟩ => h [] H a (Keep.refl H) .nil
theorem px_cons (h : PE X e (tD b x f)) (r : PA X es (tL b x fs)) (hs : starEach (e :: es) X.env = (false, eval e X.env) :: starEach es X.env := by rfl) : PA X (e :: es) (tL b x (aCons f fs)) :=
  (pa_cons h r hs).mono fun σ H Q ⟨ρ, a, q⟩ => tD_step (Keep.refl H) a q fun d ρ1 v H1 a1 k1 i1 q1 => tL_step k1 a1 q1 fun ds ρ2 vs H2 a2 k2 i2 q2 => q2 _ H2 a2 (k1.trans k2) (.cons (Im.keep k2 i1) i2)
theorem px_tup {x1} (h : PA X es (tL b x fs)) : PE X (.Tuple es x1 pos) (tD b x (aN dTup fs)) :=
  (pe_frz (pe_tup h)).mono fun σ H Q ⟨ρ, a, q⟩ => tL_step (Keep.refl H) a q fun ds ρ1 vs H1 a1 k1 i1 q1 => by
    obtain ⟨d, e, q2⟩ := lift_go q1
    unfold dTup at e
    split at e
    · rename_i hl
      cases e
      refine ⟨size_line (by rw [ImL.length i1]; exact hl), fun p hp => fin_tup (fun v H2 u i => q2 v H2 (a1.up u) (k1.trans u.toKeep) i) hp i1⟩
    · cases e
theorem px_lst (h : PA X es (tL b x fs)) : PE X (.List es pos) (tD b x (aN dLst fs)) :=
  (pe_frz (pe_lst h)).mono fun σ H Q ⟨ρ, a, q⟩ => tL_step (Keep.refl H) a q fun ds ρ1 vs H1 a1 k1 i1 q1 => by
    obtain ⟨d, e, q2⟩ := lift_go q1
    unfold dLst at e
    split at e
    · rename_i hl
      cases e
      refine ⟨size_line (by rw [ImL.length i1]; exact hl), fun p hp => fin_lst (fun v H2 u i => q2 v H2 (a1.up u) (k1.trans u.toKeep) i) hp i1⟩
    · cases e
theorem t2 {r : R2} {op : D → D → Option D} (s : Sd2 b r op) {σ : L2.St} {H : Hp} {Q : VK} (h : tD b x (a2 op f g) σ H Q) : tOp r (tD b x f) (tD b x g) σ H (fun v H1 => Frz v H1 Q) := by
  obtain ⟨ρ, a, q⟩ := h
  exact tD_step (Keep.refl H) a q fun d1 ρ1 v1 H1 a1 k1 i1 q1 => tD_step k1 a1 q1 fun d2 ρ2 v2 H2 a2 k2 i2 q2 => by
    obtain ⟨d, e, q3⟩ := lift_go q2
    exact s H2 v1 v2 d1 d2 d Q (Im.keep k2 i1) i2 e fun v H3 u i => q3 v H3 (a2.up u) ((k1.trans k2).trans u.toKeep) i
theorem px_bin {o : Operator} {r : R2} {op : D → D → Option D} (ho : OpR X (binaryOp o) r) (s : Sd2 b r op) (ha : PE X a (tD b x f)) (hc : PE X c (tD b x g)) : PE X (.BinOp a o c pos) (tD b x (a2 op f g)) :=
  (pe_frz (pe_op ho ha hc)).mono fun σ H Q h => t2 s h
theorem px_un {o : UnaryOp} {r : V → Hp → VK → Prop} {op : D → Option D} (ho : UnR X (unaryOp o) r) (s : Sd1 b r op) (ha : PE X a (tD b x f)) : PE X (.UnaryOp o a pos) (tD b x (a1 op f)) :=
  (pe_frz (pe_un ho ha)).mono fun σ H Q ⟨ρ, a, q⟩ => tD_step (Keep.refl H) a q fun d1 ρ1 v1 H1 a1 k1 i1 q1 => by
    obtain ⟨d, e, q3⟩ := lift_go q1
    exact s H1 v1 d1 d Q i1 e fun v H3 u i => q3 v H3 (a1.up u) (k1.trans u.toKeep) i
theorem px_cmp {o : CmpOp} {r : R2} {op : D → D → Option D} (ho : OpR X (compareOp o) r) (s : Sd2 b r op) (ha : PE X a (tD b x f)) (hc : PE X c (tD b x g)) (hm : behindInMarks o c = false) : PE X (.Compare a [o] [c] pos) (tD b x (a2 op f g)) :=
  (pe_frz (pe_cmpR ho ha hc hm)).mono fun σ H Q h => t2 s h
theorem px_ix {r : R2} {op : D → D → Option D} (ho : IxR X r) (s : Sd2 b r op) (ha : PE X a (tD b x f)) (hc : PE X c (tD b x g)) (hs : PlainIx c) : PE X (.Subscript a c pos) (tD b x (a2 op f g)) :=
  (pe_frz (pe_ix ho ha hc hs)).mono fun σ H Q h => t2 s h
theorem tN {r : List V → Hp → VK → Prop} {op : List D → Option D} (s : SdN b r op) {σ : L2.St} {H : Hp} {Q : VK} (h : tD b x (aN op fs) σ H Q) : tCB r (tL b x fs) σ H (fun v H1 => Frz v H1 Q) := by
  obtain ⟨ρ, a, q⟩ := h
  exact tL_step (Keep.refl H) a q fun ds ρ1 vs H1 a1 k1 i1 q1 => by
    obtain ⟨d, e, q2⟩ := lift_go q1
    exact s H1 vs ds d Q i1 e fun v H3 u i => q2 v H3 (a1.up u) (k1.trans u.toKeep) i
theorem px_callB {id : String} {n : Str} {p : Pos} {r : List V → Hp → VK → Prop} {op : List D → Option D} (hc : CallR X (.builtin id) r) (s : SdN b r op) (hg : Gl X n) (hm : X.mg n = none) (hv : bootBuiltins n = some (.builtin id)) (ha : PA X (e :: es) (tL b x fs))
    (hn : n ≠ "__name__" := by decide) (hdb : (n == ("__debug__" : Str)) = false := by decide)
    (he : starEach (e :: es) X.env = (false, eval e X.env) :: starEach es X.env := by rfl) (hpl : (backTo pos (starEach es X.env)).any (·.1) = false := by rfl) : PE X (.Call (.Name n p) (e :: es) [] pos) (tD b x (aN op fs)) :=
  (pe_frz (pe_callB hc hg hm hv ha hn hdb he hpl)).mono fun σ H Q h => tN s h
theorem px_callTy {T : String} {n : Str} {p : Pos} {r : List V → Hp → VK → Prop} {op : List D → Option D} (hc : CallR X (.type T) r) (s : SdN b r op) (hg : Gl X n) (hm : X.mg n = none) (hv : bootBuiltins n = some (.type T)) (ha : PA X (e :: es) (tL b x fs))
    (hn : n ≠ "__name__" := by decide) (hdb : (n == ("__debug__" : Str)) = false := by decide)
    (he : starEach (e :: es) X.env = (false, eval e X.env) :: starEach es X.env := by rfl) (hpl : (backTo pos (starEach es X.env)).any (·.1) = false := by rfl) : PE X (.Call (.Name n p) (e :: es) [] pos) (tD b x (aN op fs)) :=
  (pe_frz (pe_callTy hc hg hm hv ha hn hdb he hpl)).mono fun σ H Q h => tN s h

/-! ### tests, and truth values -/
variable {cf cg : Act Bool}
theorem pt_x (h : PE X e (tD b x f)) (he : ∀ whole, isTrue e X.env whole = (do let v ← whole; standAt e.pos; holding [v] (truthy v)) := by intro _; rfl) : PT X e (tT b x (cB f)) :=
  (pt_val h he).mono fun σ H Q ⟨ρ, a, q⟩ => tD_step (Keep.refl H) a q fun d ρ1 v H1 a1 k1 i1 q1 => by
    obtain ⟨d', e, q2⟩ := lift_go q1
    cases d with
    | bl k' => cases e; cases i1; exact ⟨_, rfl, q2 H1 a1 k1⟩
    | _ => cases e
theorem pt_cmp' {o : CmpOp} {r : R2} {op : D → D → Option D} (ho : OpR X (compareOp o) r) (s : Sd2 b r op) (hb : ∀ d1 d2 d, op d1 d2 = some d → ∃ k, d = .bl k) (ha : PE X a (tD b x f)) (hc : PE X c (tD b x g)) (hm : behindInMarks o c = false) : PT X (.Compare a [o] [c] pos) (tT b x (cB (a2 op f g))) := by
  refine ⟨fun pins s' σ H Q I h => ?_⟩
  obtain ⟨ρ, a0, q⟩ := h
  refine wpAny_isTrue_Compare1 (thn (ha.run pins s' σ H _ I (tD_step (R := fun v H1 => tD b x g σ H1 fun y H2 => r v y H2 fun z H3 => Frz z H3 fun z H3 => ∃ k, z = .bl k ∧ Q k H3) (Keep.refl H) a0 (k := fun x1 => Act.bind (Act.bind g fun y => lift (op x1 y)) fun x2 => lift (asB x2)) (by
      have e : (cB (a2 op f g)) ρ = (f.bind fun x1 => Act.bind (Act.bind g fun y => lift (op x1 y)) fun x2 => lift (asB x2)) ρ := by
        unfold cB a2 Act.bind
        cases f ρ with
        | ok a ρ1 => rfl
        | exc e ρ1 => rfl
        | stuck => rfl
      rw [e] at q
      exact q) fun d1 ρ1 v1 H1 a1 k1 i1 q1 => tD_step (k := fun y => Act.bind (lift (op d1 y)) fun x2 => lift (asB x2)) k1 a1 (by
        have e : (Act.bind (Act.bind g fun y => lift (op d1 y)) fun x2 => lift (asB x2)) ρ1 = (g.bind fun y => Act.bind (lift (op d1 y)) fun x2 => lift (asB x2)) ρ1 := by
          unfold Act.bind
          cases g ρ1 with
          | ok a ρ1 => rfl
          | exc e ρ1 => rfl
          | stuck => rfl
        rw [e] at q1
        exact q1) fun d2 ρ2 v2 H2 a2 k2 i2 q2 => by
          obtain ⟨d, e, q3⟩ := lift_go q2.bind
          refine s H2 v1 v2 d1 d2 d _ (Im.keep k2 i1) i2 e fun v H3 u i => ?_
          obtain ⟨kk, e2, q4⟩ := lift_go q3
          obtain ⟨k', rfl⟩ := hb _ _ _ e
          cases e2
          cases i
          exact ⟨_, rfl, q4 H3 (a2.up u) ((k1.trans k2).trans u.toKeep)⟩)) fun v s1 ⟨x1, H1, I1, r1, q1⟩ => thn (hc.run pins s1 σ H1 _ I1 q1) fun u s2 ⟨y, H2, I2, r2, q2⟩ =>
    thn (ho pins s2 σ H2 x1 y v u _ I2 r1 r2 q2) fun c s3 ⟨z, H3, I3, r3, q3⟩ => ?_) hm
  rcases q3 with ⟨k, e, q3⟩ | ⟨a, o, e, ha, hm, hi, q3⟩
  · subst e
    cases r3
    exact wpAny_truthy_bool ⟨H3, I3, q3⟩
  · obtain ⟨ob, I4⟩ := I3.freeze ha hm hi
    obtain ⟨k, e2, q4⟩ := q3 ob
    rw [e] at e2
    cases e2
theorem pt_not' (h : PT X e (tT b x cf)) : PT X (.UnaryOp .Not e pos) (tT b x (cNot cf)) := (pt_not h).mono fun σ H Q ⟨ρ, a, q⟩ => tT_step (Keep.refl H) a q fun k ρ1 H1 a1 k1 q1 => q1 H1 a1 k1
theorem pw_one_and (h : PT X e (tT b x cf)) : PW X (.BoolOp .And [e] pos) (tT b x cf) := pw_and1 h
theorem pw_one_or (h : PT X e (tT b x cf)) : PW X (.BoolOp .Or [e] pos) (tT b x cf) := pw_or1 h
theorem pw_and' {c : Expr} (h : PT X e (tT b x cf)) (r : PW X (.BoolOp .And (c :: es) pos) (tT b x cg)) : PW X (.BoolOp .And (e :: c :: es) pos) (tT b x (cAnd cf cg)) := (pw_and h r).mono fun σ H Q ⟨ρ, a, q⟩ => tT_step (Keep.refl H) a q fun k ρ1 H1 a1 k1 q1 => by
  cases k with
  | true => exact ⟨ρ1, a1, (q1.keep k1).imp fun c ρ2 h2 H2 a2 k2 => h2 H2 a2 (k1.trans k2)⟩
  | false => exact q1 H1 a1 k1
theorem pw_or' {c : Expr} (h : PT X e (tT b x cf)) (r : PW X (.BoolOp .Or (c :: es) pos) (tT b x cg)) : PW X (.BoolOp .Or (e :: c :: es) pos) (tT b x (cOr cf cg)) := (pw_or h r).mono fun σ H Q ⟨ρ, a, q⟩ => tT_step (Keep.refl H) a q fun k ρ1 H1 a1 k1 q1 => by
  cases k with
  | true => exact q1 H1 a1 k1
  | false => exact ⟨ρ1, a1, (q1.keep k1).imp fun c ρ2 h2 H2 a2 k2 => h2 H2 a2 (k1.trans k2)⟩
/-- and, or, not of truth values, as a value -/
theorem px_one {o} (h : PE X e (tD b x f)) : PE X (.BoolOp o [e] pos) (tD b x f) := pe_one h
theorem px_and {c : Expr} (h : PE X e (tD b x f)) (r : PE X (.BoolOp .And (c :: es) pos) (tD b x g)) : PE X (.BoolOp .And (e :: c :: es) pos) (tD b x (f.bind fun y => (lift (asB y)).bind fun k => if k = true then g else aC (.bl false))) := (pe_and h r).mono fun σ H Q ⟨ρ, a, q⟩ =>
  tD_step (Keep.refl H) a q fun d ρ1 v H1 a1 k1 i1 q1 => by
    obtain ⟨k, e, q2⟩ := lift_go q1.bind
    cases d with
    | bl k' =>
      cases e; cases i1
      refine ⟨_, rfl, ?_⟩
      cases k with
      | true => exact ⟨ρ1, a1, (q2.keep k1).imp fun c ρ2 h2 v H2 a2 k2 => h2 v H2 a2 (k1.trans k2)⟩
      | false => exact q2 _ H1 a1 k1 (.bl false)
    | _ => cases e
theorem px_or {c : Expr} (h : PE X e (tD b x f)) (r : PE X (.BoolOp .Or (c :: es) pos) (tD b x g)) : PE X (.BoolOp .Or (e :: c :: es) pos) (tD b x (f.bind fun y => (lift (asB y)).bind fun k => if k = true then aC (.bl true) else g)) := (pe_or h r).mono fun σ H Q ⟨ρ, a, q⟩ =>
  tD_step (Keep.refl H) a q fun d ρ1 v H1 a1 k1 i1 q1 => by
    obtain ⟨k, e, q2⟩ := lift_go q1.bind
    cases d with
    | bl k' =>
      cases e; cases i1
      refine ⟨_, rfl, ?_⟩
      cases k with
      | true => exact q2 _ H1 a1 k1 (.bl true)
      | false => exact ⟨ρ1, a1, (q2.keep k1).imp fun c ρ2 h2 v H2 a2 k2 => h2 v H2 a2 (k1.trans k2)⟩
    | _ => cases e
theorem px_not (h : PE X e (tD b x f)) : PE X (.UnaryOp .Not e pos) (tD b x (f.bind fun y => (lift (asB y)).bind fun k => aC (.bl (!k)))) := (pe_not h).mono fun σ H Q ⟨ρ, a, q⟩ =>
  tD_step (Keep.refl H) a q fun d ρ1 v H1 a1 k1 i1 q1 => by
    obtain ⟨k, e, q2⟩ := lift_go q1.bind
    cases d with
    | bl k' =>
      cases e; cases i1
      exact ⟨_, rfl, q2 _ H1 a1 k1 (.bl _)⟩
    | _ => cases e
theorem px_if (h : PT X e (tT b x cf)) (ha : PE X a (tD b x f)) (hc : PE X c (tD b x g)) : PE X (.IfExp e a c pos) (tD b x (cI cf f g)) := (pe_ifExp h ha hc).mono fun σ H Q ⟨ρ, a0, q⟩ =>
  tT_step (Keep.refl H) a0 q fun k ρ1 H1 a1 k1 q1 => by
    cases k with
    | true => exact ⟨ρ1, a1, (q1.keep k1).imp fun c ρ2 h2 v H2 a2 k2 => h2 v H2 a2 (k1.trans k2)⟩
    | false => exact ⟨ρ1, a1, (q1.keep k1).imp fun c ρ2 h2 v H2 a2 k2 => h2 v H2 a2 (k1.trans k2)⟩
end
end DL
end
section
set_option Elab.async false
set_option linter.all false
set_option maxRecDepth 100000
set_option maxHeartbeats 2000000
namespace DL
open PySem PySem.Spec PyProof.Rows L2

/-! ### statements -/
def gSeq (g h : GS) : GS := fun ρ => match g ρ with
  | .nx ρ1 => h ρ1
  | o => o
def gNext : GS := fun ρ => .nx ρ
def gBreak : GS := fun ρ => .bk ρ
def gCont : GS := fun ρ => .ct ρ
def gOf {α : Type} (f : Act α) (k : α → GS) : GS := fun ρ => match f ρ with
  | .ok a ρ1 => k a ρ1
  | .exc e ρ1 => .exc e ρ1
  | .stuck => .stuck
@[reducible] def gSet (i : Nat) (f : Act D) : GS := gOf f fun d ρ => .nx (ρ.set i (some (.d d)))
@[reducible] def gDrop (f : Act D) : GS := gOf f fun _ ρ => .nx ρ
@[reducible] def gRet (f : Act D) : GS := gOf f fun d ρ => .rt d ρ
def gRetN : GS := fun ρ => .rt .non ρ
@[reducible] def gIf (c : Act Bool) (g h : GS) : GS := gOf c fun k => if k = true then g else h
abbrev Tg := D → DEnv → Option DEnv
@[reducible] def tgN (i : Nat) : Tg := fun d ρ => some (ρ.set i (some (.d d)))
abbrev Tgs := List D → DEnv → Option DEnv
def tgNil : Tgs
  | [], ρ => some ρ
  | _ :: _, _ => none
def tgCons (t : Tg) (ts : Tgs) : Tgs
  | d :: ds, ρ => match t d ρ with
    | some ρ1 => ts ds ρ1
    | none => none
  | [], _ => none
def tgT (n : Nat) (ts : Tgs) : Tg
  | .tup ds, ρ => if ds.length = n then ts ds ρ else none
  | _, _ => none
@[reducible] def gAsg (t : Tg) (f : Act D) : GS := gOf f fun d ρ => match t d ρ with
  | some ρ1 => .nx ρ1
  | none => .stuck
def gForL (t : Tg) (g : GS) : List D → GS
  | [], ρ => .nx ρ
  | d :: ds, ρ => match t d ρ with
    | none => .stuck
    | some ρ1 => match g ρ1 with
      | .nx ρ2 => gForL t g ds ρ2
      | .ct ρ2 => gForL t g ds ρ2
      | .bk ρ2 => .nx ρ2
      | o => o
@[reducible] def gFor (fi : Act (List D)) (t : Tg) (g : GS) : GS := gOf fi fun xs => gForL t g xs
def gWh (c : Act Bool) (g : GS) : Nat → GS
  | 0, _ => .stuck
  | n + 1, ρ => match c ρ with
    | .ok true ρ1 => match g ρ1 with
      | .nx ρ2 => gWh c g n ρ2
      | .ct ρ2 => gWh c g n ρ2
      | .bk ρ2 => .nx ρ2
      | o => o
    | .ok false ρ1 => .nx ρ1
    | .exc e ρ1 => .exc e ρ1
    | .stuck => .stuck

section
variable {b : BC} {x : XC} {σ : L2.St} {ρ : DEnv} {H H' : Hp}
theorem gOf_go {α : Type} {f : Act α} {k : α → GS} {E : Ends} (h : GoS b x H (gOf f k ρ) E) (hx : ∀ e ρ1, f ρ = .exc e ρ1 → Go b x σ H (f ρ) (fun _ _ => False) → False → True := by intros; trivial) :
    (∃ a ρ1, f ρ = .ok a ρ1 ∧ GoS b x H (k a ρ1) E) ∨ ∃ e ρ1, f ρ = .exc e ρ1 ∧ x.ok ∧ ∀ cls dx σ H', At b σ ρ1 H' → Keep H H' → XcAt b H' cls dx e → x.W cls dx σ H' := by
  unfold gOf at h
  cases e : f ρ with
  | ok a ρ1 => rw [e] at h; exact .inl ⟨a, ρ1, rfl, h⟩
  | exc e' ρ1 => rw [e] at h; exact .inr ⟨e', ρ1, rfl, h⟩
  | stuck => rw [e] at h; exact h.elim
theorem tD_S {f : Act D} {k : D → GS} {E : Ends} {R : VK} (a : At b σ ρ H) (h : GoS b x H (gOf f k ρ) E) (hk : ∀ d ρ1 v H1, At b σ ρ1 H1 → Keep H H1 → b.Im H1 v d → GoS b x H (k d ρ1) E → R v H1) : tD b x f σ H R := by
  refine ⟨ρ, a, ?_⟩
  rcases gOf_go (σ := σ) h with ⟨d, ρ1, e, q⟩ | ⟨e, ρ1, e2, ho, q⟩
  · rw [e]; exact fun v H1 a1 k1 i1 => hk d ρ1 v H1 a1 k1 i1 q
  · rw [e2]; exact ⟨ho, fun cls dx H' a1 k1 z => q cls dx σ H' a1 k1 z⟩
theorem tT_S {f : Act Bool} {k : Bool → GS} {E : Ends} {R : Bool → Hp → Prop} (a : At b σ ρ H) (h : GoS b x H (gOf f k ρ) E) (hk : ∀ d ρ1 H1, At b σ ρ1 H1 → Keep H H1 → GoS b x H (k d ρ1) E → R d H1) : tT b x f σ H R := by
  refine ⟨ρ, a, ?_⟩
  rcases gOf_go (σ := σ) h with ⟨d, ρ1, e, q⟩ | ⟨e, ρ1, e2, ho, q⟩
  · rw [e]; exact fun H1 a1 k1 => hk d ρ1 H1 a1 k1 q
  · rw [e2]; exact ⟨ho, fun cls dx H' a1 k1 z => q cls dx σ H' a1 k1 z⟩
theorem tF_S {f : Act (List D)} {k : List D → GS} {E : Ends} {R : VK} (a : At b σ ρ H) (h : GoS b x H (gOf f k ρ) E)
    (hk : ∀ ds ρ1 p vs H1, At b σ ρ1 H1 → Keep H H1 → b.B p = none → (∀ (j : Nat) (y : Cell), ρ1[j]? = some (some y) → y.own → σ[j]? ≠ some (some (V.ref p))) → H1 p = some (.lst vs) → b.ImL H1 vs ds → GoS b x H (k ds ρ1) E → R (.ref p) H1) : tF b x f σ H R := by
  refine ⟨ρ, a, ?_⟩
  rcases gOf_go (σ := σ) h with ⟨d, ρ1, e, q⟩ | ⟨e, ρ1, e2, ho, q⟩
  · rw [e]; exact fun p vs H1 a1 k1 hB hn hp i1 => hk d ρ1 p vs H1 a1 k1 hB hn hp i1 q
  · rw [e2]; exact ⟨ho, fun cls dx H' a1 k1 z => q cls dx σ H' a1 k1 z⟩
/-- the same, as a reading -/
theorem tS_at {g : GS} {E : Ends} {H0 : Hp} (k : Keep H0 H) (a : At b σ ρ H) (h : GoS b x H0 (g ρ) E) : tS b x g E σ H := ⟨ρ, a, h.keep k⟩
/-- whatever follows -/
theorem GoS.imp {o : Out} {E E' : Ends} (h : GoS b x H o E) (h1 : ∀ σ H', E.nx σ H' → E'.nx σ H') (h2 : ∀ v H', E.rt v H' → E'.rt v H') (h3 : ∀ σ H', E.bk σ H' → E'.bk σ H') (h4 : ∀ σ H', E.ct σ H' → E'.ct σ H') : GoS b x H o E' := by
  cases o with
  | nx ρ => exact fun s H2 a k2 => h1 _ _ (h s H2 a k2)
  | bk ρ => exact fun s H2 a k2 => h3 _ _ (h s H2 a k2)
  | ct ρ => exact fun s H2 a k2 => h4 _ _ (h s H2 a k2)
  | rt d ρ => exact fun v s H2 a k2 i => h2 _ _ (h v s H2 a k2 i)
  | exc e ρ => exact h
  | stuck => exact h
end

section
variable {X : Cx} {b : BC} {x : XC} {e : Expr} {es : List Expr} {pos pos' : Pos} {f : Act D} {g h : GS} {st : Stmt} {sts : List Stmt} {n : Str}
theorem ss_nil : PSs X [] (tS b x gNext) := pss_nil.mono fun E σ H ⟨ρ, a, q⟩ => q σ H a (Keep.refl H)
theorem ss_one (h1 : PS X st (tS b x g)) : PSs X [st] (tS b x g) := pss_one h1
theorem ss_cons (h1 : PS X st (tS b x g)) (h2 : PSs X sts (tS b x h)) : PSs X (st :: sts) (tS b x (gSeq g h)) := (pss_cons h1 h2).mono fun E σ H ⟨ρ, a, q⟩ => by
  refine ⟨ρ, a, ?_⟩
  unfold gSeq at q
  cases e : g ρ with
  | nx ρ1 => rw [e] at q; exact fun s H1 a1 k1 => tS_at k1 a1 q
  | bk ρ1 => rw [e] at q; exact q
  | ct ρ1 => rw [e] at q; exact q
  | rt d ρ1 => rw [e] at q; exact q
  | exc d ρ1 => rw [e] at q; exact q
  | stuck => rw [e] at q; exact q
theorem s_pass : PS X (.Pass pos) (tS b x gNext) := ps_pass.mono fun E σ H ⟨ρ, a, q⟩ => q σ H a (Keep.refl H)
theorem s_break : PS X (.Break pos) (tS b x gBreak) := ps_break.mono fun E σ H ⟨ρ, a, q⟩ => q σ H a (Keep.refl H)
theorem s_cont : PS X (.Continue pos) (tS b x gCont) := ps_continue.mono fun E σ H ⟨ρ, a, q⟩ => q σ H a (Keep.refl H)
theorem s_expr (he : PE X e (tD b x f)) (hs : swapsWith e none pos.line X.env = pure false := by rfl) : PS X (.Expr e pos) (tS b x (gDrop f)) :=
  (ps_expr he hs).mono fun E σ H ⟨ρ, a, q⟩ => tD_S a q fun d ρ1 v H1 a1 k1 i1 q1 => q1 σ H1 a1 k1
theorem s_ret (he : PE X e (tD b x f)) : PS X (.Return (some e) pos) (tS b x (gRet f)) :=
  (ps_ret he).mono fun E σ H ⟨ρ, a, q⟩ => tD_S a q fun d ρ1 v H1 a1 k1 i1 q1 => q1 v σ H1 a1 k1 i1
theorem s_retN : PS X (.Return none pos) (tS b x gRetN) := ps_retN.mono fun E σ H ⟨ρ, a, q⟩ => q .non σ H a (Keep.refl H) .non
theorem s_set {i : Nat} (hp : b.pin = none ∨ i ≠ 0) (hN : X.N.Nodup) (hi : X.N[i]? = some n) (hx : Loc X.env.scope n) (he : PE X e (tD b x f)) (hs : swapsWith e (some (.Name n pos')) pos.line X.env = pure false := by rfl)
    (hf : X.fn n = true ∨ X.env.scope.names.lookup n = some .local := by first | exact .inl rfl | exact .inr rfl | assumption) : PS X (.Assign [.Name n pos'] e pos) (tS b x (gSet i f)) :=
  (ps_set hN hi hx he hs hf).mono fun E σ H ⟨ρ, a, q⟩ => tD_S a q fun d ρ1 v H1 a1 k1 i1 q1 => q1 _ H1 (a1.set hp i1) k1
theorem s_if {c : Expr} {cs ds : List Stmt} {cf : Act Bool} (hc : PT X c (tT b x cf)) (h1 : PSs X cs (tS b x g)) (h2 : PSs X ds (tS b x h)) : PS X (.If c cs ds pos) (tS b x (gIf cf g h)) :=
  (ps_if hc h1 h2).mono fun E σ H ⟨ρ, a, q⟩ => tT_S a q fun k ρ1 H1 a1 k1 q1 => by
    cases k with
    | true => exact tS_at k1 a1 q1
    | false => exact tS_at k1 a1 q1
theorem s_while (m : Nat) {c : Expr} {cs : List Stmt} {cf : Act Bool} (hp : PassesOwn (model X.prog X.w) X.A X.env X.xe) (hc : PT X c (tT b x cf)) (hb : PSs X cs (tS b x g)) : PS X (.While c cs [] pos) (tS b x (gWh cf g m)) :=
  (ps_while hp hc hb).mono fun E σ H ⟨ρ, a, q⟩ => by
    refine ⟨fun m σ' H' => ∃ ρ', At b σ' ρ' H' ∧ Keep H H' ∧ GoS b x H (gWh cf g m ρ') E, ⟨m, ρ, a, Keep.refl H, q⟩, ?_⟩
    rintro m σ' H' ⟨ρ', a', k', q'⟩
    cases m with
    | zero => exact q'.elim
    | succ m =>
      unfold gWh at q'
      refine ⟨ρ', a', ?_⟩
      cases e : cf ρ' with
      | ok k ρ1 =>
        rw [e] at q'
        intro H1 a1 k1
        cases k with
        | false => exact q' σ' H1 a1 (k'.trans k1)
        | true =>
          show ∃ N : L2.St → Hp → Prop, _
          refine ⟨fun σ2 H2 => ∃ ρ2, At b σ2 ρ2 H2 ∧ Keep H H2 ∧ GoS b x H (gWh cf g m ρ2) E, fun σ2 H2 w => ⟨m, Nat.lt_succ_self m, w⟩, ρ1, a1, ?_⟩
          cases e2 : g ρ1 with
          | nx ρ2 =>
            simp only [e2] at q'
            exact fun s H2 a2 k2 => ⟨ρ2, a2, (k'.trans k1).trans k2, q'⟩
          | ct ρ2 =>
            simp only [e2] at q'
            exact fun s H2 a2 k2 => ⟨ρ2, a2, (k'.trans k1).trans k2, q'⟩
          | bk ρ2 =>
            simp only [e2] at q'
            exact fun s H2 a2 k2 => q' s H2 a2 ((k'.trans k1).trans k2)
          | rt d ρ2 =>
            simp only [e2] at q'
            exact fun v s H2 a2 k2 i2 => q' v s H2 a2 ((k'.trans k1).trans k2) i2
          | exc d ρ2 =>
            simp only [e2] at q'
            exact ⟨q'.1, fun c d s H2 a2 k2 => q'.2 c d s H2 a2 ((k'.trans k1).trans k2)⟩
          | stuck => simp only [e2] at q'; exact q'.elim
      | exc e' ρ1 =>
        rw [e] at q'
        exact ⟨q'.1, fun cls dx H2 a2 k2 => q'.2 cls dx σ' H2 a2 (k'.trans k2)⟩
      | stuck => rw [e] at q'; exact q'.elim
end

/-! ### targets -/
def gD (b : BC) (t : Tg) (sl : List Nat) : TG := fun v σ H Q => ∃ ρ d ρ', At b σ ρ H ∧ b.Im H v d ∧ t d ρ = some ρ' ∧ ∀ σ', At b σ' ρ' H → σ'.length = σ.length → (∀ j, j ∉ sl → σ'[j]? = σ[j]?) → Q σ' H
def gDs (b : BC) (t : Tgs) (sl : List Nat) : TGs := fun vs σ H Q => ∃ ρ ds ρ', At b σ ρ H ∧ b.ImL H vs ds ∧ t ds ρ = some ρ' ∧ ∀ σ', At b σ' ρ' H → σ'.length = σ.length → (∀ j, j ∉ sl → σ'[j]? = σ[j]?) → Q σ' H
theorem _root_.L2.PG.mono {X : Cx} {e : Expr} {t t' : TG} (h : PG X e t) (m : ∀ v σ H Q, t' v σ H Q → t v σ H Q) : PG X e t' := ⟨fun pins s σ H v u Q I r q => h.run pins s σ H v u Q I r (m v σ H Q q)⟩
theorem _root_.L2.PGs.mono {X : Cx} {e : List Expr} {t t' : TGs} (h : PGs X e t) (m : ∀ v σ H Q, t' v σ H Q → t v σ H Q) : PGs X e t' := ⟨fun pins s σ H v u Q I r q => h.run pins s σ H v u Q I r (m v σ H Q q)⟩
theorem _root_.L2.PI.mono {X : Cx} {tg e : Expr} {t t' : TI} (h : PI X tg e t) (m : ∀ σ H R, t' σ H R → t σ H R) : PI X tg e t' := ⟨fun pins s σ H R I q => h.run pins s σ H R I (m σ H R q)⟩
section
variable {X : Cx} {b : BC} {x : XC} {e : Expr} {es : List Expr} {pos pos' : Pos} {n : Str}
theorem g_n {i : Nat} (hp : b.pin = none ∨ i ≠ 0) (hN : X.N.Nodup) (hi : X.N[i]? = some n) (hx : Loc X.env.scope n) (hf : X.fn n = true ∨ X.env.scope.names.lookup n = some .local := by first | exact .inl rfl | exact .inr rfl | assumption) : PG X (.Name n pos) (gD b (tgN i) [i]) :=
  (pg_name hN hi hx hf).mono fun v σ H Q ⟨ρ, d, ρ', a, i1, e, q⟩ => by
    cases e
    exact q _ (a.set hp i1) (by rw [List.length_set]) fun j hj => List.getElem?_set_ne (fun z => hj (by rw [z]; exact List.mem_singleton.mpr rfl))
theorem g_nil : PGs X [] (gDs b tgNil []) := pgs_nil.mono fun vs σ H Q ⟨ρ, ds, ρ', a, i, e, q⟩ => by
  cases i with
  | nil => cases e; exact ⟨rfl, q σ a rfl fun _ _ => rfl⟩
  | cons _ _ => cases e
theorem g_cons {t : Tg} {ts : Tgs} {l ls : List Nat} (h1 : PG X e (gD b t l)) (h2 : PGs X es (gDs b ts ls)) (hs : (assignEach (e :: es) X.env).map (·.2) = assign e X.env :: (assignEach es X.env).map (·.2) := by rfl) : PGs X (e :: es) (gDs b (tgCons t ts) (l ++ ls)) :=
  (pgs_cons h1 h2 hs).mono fun vs σ H Q ⟨ρ, ds, ρ', a, i, e, q⟩ => by
    cases i with
    | nil => cases e
    | @cons v vs d ds i1 ir =>
      replace e : (match t d ρ with | some ρ1 => ts ds ρ1 | none => none) = some ρ' := e
      cases e1 : t d ρ with
      | none => rw [e1] at e; cases e
      | some ρ1 =>
        rw [e1] at e
        exact ⟨_, _, rfl, ρ, d, ρ1, a, i1, e1, fun σ1 a1 l1 s1 => ⟨ρ1, ds, ρ', a1, ir, e, fun σ2 a2 l2 s2 => q σ2 a2 (l2.trans l1) fun j hj => by
          rw [List.mem_append, not_or] at hj
          exact (s2 j hj.2).trans (s1 j hj.1)⟩⟩
theorem g_tup {t : Tgs} {k n : Nat} {l : List Nat} (hK : X.K = b.K) (hc : X.calm = true) (h : PGs X es (gDs b t l)) (hn : (assignEach es X.env).length = n := by rfl) (hst : (assignEach es X.env).findIdx? (·.1) = none := by rfl) : PG X (.Tuple es k pos) (gD b (tgT n t) l) :=
  (pg_tup hc h hn hst).mono fun v σ H Q ⟨ρ, d, ρ', a, i, e, q⟩ => by
    cases i with
    | tup hs il =>
      unfold tgT at e
      dsimp only at e
      split at e
      · rename_i hl
        refine ⟨_, _, rfl, by rw [hK]; exact hs, by rw [ImL.length il]; exact hl, ρ, _, ρ', a, il, e, q⟩
      · cases e
    | _ => cases e
theorem s_asg {t : Tg} {f : Act D} {l : List Nat} {tg : Expr} (he : PE X e (tD b x f)) (hg : PG X tg (gD b t l)) (hs : swapsWithSole [tg] e pos.line X.env = pure false := by rfl) (hw : swappedStores [tg] e X.env = pure none := by rfl)
    (h1 : (assignEach [tg] X.env).map (·.2) = [assign tg X.env] := by rfl) : PS X (.Assign [tg] e pos) (tS b x (gAsg t f)) :=
  (ps_asg he hg hs hw h1).mono fun E σ H ⟨ρ, a, q⟩ => tD_S a q fun d ρ1 v H1 a1 k1 i1 q1 => by
    cases e : t d ρ1 with
    | none => rw [e] at q1; exact q1.elim
    | some ρ2 =>
      rw [e] at q1
      exact ⟨ρ1, d, ρ2, a1, i1, e, fun σ' a' _ _ => q1 σ' H1 a' k1⟩
end

/-! ### what is walked -/
/-- J walks the data xs, from H0 on -/
structure WalkD (b : BC) (J : It) (xs : List D) (H0 : Hp) : Prop where
  ex : ∃ (G : Hp → Prop) (Y : Nat → Hp → V → Hp → Prop), L2.Walk J xs.length G Y ∧ G H0 ∧ (∀ H1 H2, G H1 → Keep H1 H2 → G H2) ∧
    ∀ i H v H2, i < xs.length → G H → Y i H v H2 → Up b.tb H H2 ∧ ∃ d, xs[i]? = some d ∧ b.Im H2 v d
def wD (b : BC) (x : XC) (fi : Act (List D)) : TI := fun σ H R => ∃ ρ, At b σ ρ H ∧ Go b x σ H (fi ρ) fun xs ρ' => ∀ J H', At b σ ρ' H' → Keep H H' → WalkD b J xs H' → R J H'
section
variable {X : Cx} {b : BC} {x : XC} {e tg iter : Expr} {es : List Expr} {pos pos' : Pos} {n : Str} {sts : List Stmt} {g : GS} {t : Tg} {l : List Nat} {fi : Act (List D)}
theorem s_for (hp : PassesOwn (model X.prog X.w) X.A X.env X.xe) (hc : X.calm = true) (hi : PI X tg iter (wD b x fi)) (hg : PG X tg (gD b t l)) (hb : PSs X sts (tS b x g)) (hs : ∀ x, foldedSetIterable iter X.env x = pure x := by intro _; rfl) :
    PS X (.For tg iter sts [] pos) (tS b x (gFor fi t g)) := (ps_for hp hc hi hg hb hs).mono fun E σ H ⟨ρ, a, q⟩ => by
  refine ⟨ρ, a, ?_⟩
  rcases gOf_go (σ := σ) q with ⟨xs, ρ1, e, q⟩ | ⟨e, ρ1, e2, ho, q⟩
  · rw [e]
    intro J H1 a1 k1 ⟨G, Y, w, g0, gk, hy⟩
    refine ⟨fun i m σ' H' => m = xs.length - i ∧ i ≤ xs.length ∧ ∃ ρ', At b σ' ρ' H' ∧ G H' ∧ Keep H H' ∧ GoS b x H (gForL t g (xs.drop i) ρ') E, ⟨xs.length, rfl, Nat.zero_le _, ρ1, a1, g0, k1, q⟩, ?_⟩
    rintro i m σ' H' ⟨rfl, hi, ρ', a', g', k', q'⟩
    by_cases hlt : i < xs.length
    · refine .inr ⟨w.goes i H' hlt g', fun σ2 H2 => ∃ ρ2, At b σ2 ρ2 H2 ∧ G H2 ∧ Keep H H2 ∧ GoS b x H (gForL t g (xs.drop (i + 1)) ρ2) E, fun σ2 H2 z => ⟨xs.length - (i + 1), by omega, rfl, hlt, z⟩, fun v H2 y => ?_⟩
      obtain ⟨u, d, hd, iv⟩ := hy i H' v H2 hlt g' (w.yields i H' v H2 hlt g' y)
      have ed : xs.drop i = d :: xs.drop (i + 1) := by
        rw [List.drop_eq_getElem_cons hlt]
        have := (List.getElem?_eq_some_iff.mp hd).2
        rw [this]
      rw [ed] at q'
      unfold gForL at q'
      have k2 := k'.trans u.toKeep
      cases e1 : t d ρ' with
      | none => rw [e1] at q'; exact q'.elim
      | some ρ2 =>
        simp only [e1] at q'
        refine ⟨ρ', d, ρ2, a'.up u, iv, e1, fun σ2 a2 _ _ => ⟨ρ2, a2, ?_⟩⟩
        have gg := gk H' H2 g' u.toKeep
        cases e2 : g ρ2 with
        | nx ρ3 => simp only [e2] at q'; exact fun s H3 a3 k3 => ⟨ρ3, a3, gk _ _ gg k3, k2.trans k3, q'⟩
        | ct ρ3 => simp only [e2] at q'; exact fun s H3 a3 k3 => ⟨ρ3, a3, gk _ _ gg k3, k2.trans k3, q'⟩
        | bk ρ3 => simp only [e2] at q'; exact fun s H3 a3 k3 => q' s H3 a3 (k2.trans k3)
        | rt d ρ3 => simp only [e2] at q'; exact fun v s H3 a3 k3 i3 => q' v s H3 a3 (k2.trans k3) i3
        | exc d ρ3 => simp only [e2] at q'; exact ⟨q'.1, fun c d s H3 a3 k3 => q'.2 c d s H3 a3 (k2.trans k3)⟩
        | stuck => simp only [e2] at q'; exact q'.elim
    · have ei : i = xs.length := by omega
      subst ei
      rw [List.drop_eq_nil_of_le (Nat.le_refl _)] at q'
      exact .inl ⟨w.stops H' g', q' σ' H' a' k'⟩
  · rw [e2]
    exact ⟨ho, fun cls dx H' a1 k1 z => q cls dx σ H' a1 k1 z⟩
end
end DL
end
section
set_option Elab.async false
set_option linter.all false
set_option maxRecDepth 100000
set_option maxHeartbeats 2000000
namespace PySem
open Sem (wp)
set_option maxHeartbeats 1000000 in
theorem dl_meets_enumerate_new1 {v : Value} {o : Obj} {H : Heap → Prop} (B : Begins v o H) :
    Meets (Builtin.«enumerate.__new__» ⟨[.type "enumerate", v], []⟩) (fun _ R s => H s.heap ∧
      R (.ok (.ret (.ref (s.heap.push o).objs.size))) { s with heap := (s.heap.push o).push { cls := .type "enumerate", data := .fields #[.none, .bool false, .ref s.heap.objs.size, rawInt 0, .none, .none] } }) :=
  .of_wp fun prog w A R s h => by
    obtain ⟨hp, g, d, tk, os⟩ := s; obtain ⟨h1, h⟩ := h
    have hsub := sub_enumerate
    have q1 : ∀ {A' : Around} {E : Value → Shared → Prop} {Q : Value → Shared → Prop}, Q (.ref hp.objs.size) ⟨hp.push o, g, d, tk, os⟩ → wpAny (model prog w) A' (pyIter v) Q E ⟨hp, g, d, tk, os⟩ :=
      fun q => B.iter prog w _ _ ⟨hp, g, d, tk, os⟩ _ h1 q
    wp_walk using q1
    refine wpAny_stack_any fun st => wpAny_pure ?_
    split
    · rename_i c _ _ _ _ _
      cases (c == Value.type "enumerate")
      · wp_walk using q1
        exact ⟨_, rfl, h⟩
      · wp_walk using q1
        exact ⟨_, rfl, h⟩
    · wp_walk using q1
      exact ⟨_, rfl, h⟩
theorem dl_enum_begins {prog : Program} {w : World} {A : Around} {E : Value → Shared → Prop} {s : Shared} {v : Value} {o : Obj} {H : Heap → Prop} {Q : Value → Shared → Prop} (B : Begins v o H) (h1 : H s.heap)
    (h : ∀ h', IsEnum h' (s.heap.objs.size + 1) s.heap.objs.size 0 .none → h'.get? s.heap.objs.size = some o → h'.objs.size = s.heap.objs.size + 2 →
      (∀ b o, s.heap.get? b = some o → h'.get? b = some o) → Q (.ref (s.heap.objs.size + 1)) { s with heap := h' }) :
    wpAny (model prog w) A (call (.type "enumerate") [v]) Q E s := by
  refine callType_new F.called_enumerate (by decide) (F.typeCall_enumerate_1 _) (F.newCall_enumerate_1 _) (fun obj => F.args_object_init_2 obj _) F.entry_enumerate_new
    (dl_meets_enumerate_new1 B) ⟨h1, ?_⟩
  have hz : (s.heap.push o).objs.size = s.heap.objs.size + 1 := Heap.size_push ..
  show _ ∧ _
  rw [hz]
  have he : IsEnum ((s.heap.push o).push { cls := .type "enumerate", data := .fields #[.none, .bool false, .ref s.heap.objs.size, rawInt 0, .none, .none] }) (s.heap.objs.size + 1) s.heap.objs.size 0 .none := by
    have := Heap.get?_push_size (s.heap.push o) (o := { cls := .type "enumerate", data := .fields #[.none, .bool false, .ref s.heap.objs.size, rawInt 0, .none, .none] }) rfl
    rw [hz] at this; exact this
  refine ⟨⟨_, he, rfl⟩, h _ he (Heap.get?_push_of_some _ (Heap.get?_push_size _ B.free)) (by rw [Heap.size_push, hz]) fun b o x => Heap.get?_push_of_some _ (Heap.get?_push_of_some _ x)⟩
end PySem
namespace DL
open PySem PySem.Spec PyProof.Rows L2

/-! ### a list (false) or a tuple (true), walked -/
def itOf (k : Bool) (h : Heap) (it a : Addr) (i : Nat) : Prop := match k with | true => h.IsTupleIter it a i | false => h.IsListIter it a i
def srOf (k : Bool) (h : Heap) (a : Addr) (its : Array Value) : Prop := match k with | true => h.IsTuple a its | false => h.IsList a its
def sqOf (k : Bool) (K : PySem.W.Frag) (H : Hp) (a : Addr) (xs : List V) : Prop := match k with | true => SqT K H a xs | false => SqL K H a xs
def itO (k : Bool) (a : Addr) : Obj := match k with
  | true => { cls := .type "tuple_iterator", data := .fields #[.ref a, .int 0 0] }
  | false => { cls := .type "list_iterator", data := .fields #[.ref a, .int 0 0] }
theorem draws_src {prog : Program} {w : World} {A : Around} (hh : A.handled = none) (k : Bool) (it a : Addr) (hne : a ≠ it) (items : Array Value) :
    Draws prog w A it [it, a] items.size (fun i v => items[i]? = some v) (fun i h => itOf k h it a i ∧ srOf k h a items) := by
  cases k with
  | true => exact Draws.tuple hh it a hne items
  | false => exact Draws.list hh it a hne items
theorem begins_src (k : Bool) (a : Addr) (items : Array Value) : Begins (.ref a) (itO k a) fun h => srOf k h a items := by
  cases k with
  | true => exact begins_tuple a items
  | false => exact begins_list a items
theorem itOf.obj {k : Bool} {h : Heap} {it a : Addr} {i : Nat} (x : itOf k h it a i) : ∃ o, h.get? it = some o ∧ ∀ v, o.data ≠ .cell v := by
  cases k with
  | true => obtain ⟨o, e, _, d⟩ := x; exact ⟨o, e, fun v z => by rw [d] at z; cases z⟩
  | false => obtain ⟨o, e, _, d⟩ := x; exact ⟨o, e, fun v z => by rw [d] at z; cases z⟩
theorem itOf.at {k : Bool} {h h' : Heap} {it a : Addr} {i : Nat} (x : itOf k h it a i) (hk : ∀ o, h.get? it = some o → h'.get? it = some o) : itOf k h' it a i := by
  cases k with
  | true => exact Heap.IsTupleIter.at x hk
  | false => exact Heap.IsListIter.at x hk
theorem itOf.new {k : Bool} {h : Heap} {it a : Addr} (e : h.get? it = some (itO k a)) : itOf k h it a 0 := by
  cases k with
  | true => exact ⟨_, e, rfl, rfl⟩
  | false => exact ⟨_, e, rfl, rfl⟩
theorem src_of {X : Cx} {pins : List (Addr × Obj)} {σ : L2.St} {H : Hp} {s : Shared} {k : Bool} {a : Addr} {xs : List V} (I : Inv X pins σ H s) (h : sqOf k X.K H a xs) : ∃ its : List Value, Vals xs its ∧ srOf k s.heap a its.toArray ∧ a < s.heap.objs.size := by
  cases k with
  | true =>
    obtain ⟨its, r, p, _⟩ := I.tuple h
    exact ⟨its, r, p, p.lt⟩
  | false =>
    obtain ⟨its, r, p, _⟩ := I.list h
    exact ⟨its, r, p.isList, p.lt⟩
theorem size_vals {xs : List V} {its : List Value} (r : Vals xs its) : its.toArray.size = xs.length := by rw [List.size_toArray]; exact r.length.symm

/-- new rows, one a turn, while the sources stand -/
def JR (src : Hp → Prop) (n : Nat) (row : Nat → Option (List V)) : It :=
  ⟨fun i H => i < n ∧ src H, fun i H x H' => ∃ T vs, row i = some vs ∧ x = .ref T ∧ H T = none ∧ H' = upd H T (.tup vs), fun i H => i = n ∧ src H⟩
/-- an iterator that hands out new tuples, over own cells -/
theorem turn_rows {P : Program} {w : World} {K : PySem.W.Frag} {elts : List Expr} {kk : Nat} {tpos : Pos} {src : Hp → Prop} {n : Nat} {row : Nat → Option (List V)} {own : List Addr} {it : Addr} {tn : Nat → Heap → Prop}
    (hmem : it ∈ own) (hobj : ∀ i h, tn i h → ∀ b ∈ own, ∃ o, h.get? b = some o ∧ ∀ v, o.data ≠ .cell v) (hkeep : ∀ i h h', tn i h → (∀ b ∈ own, ∀ o, h.get? b = some o → h'.get? b = some o) → tn i h')
    (hself : ∀ (A : Around) (i : Nat) (s : Shared) (Q : Value → Shared → Prop) (E : Value → Shared → Prop), tn i s.heap → Q (.ref it) s → wpAny (model P w) A (pyIter (.ref it)) Q E s)
    (hgo : ∀ (X : Cx), X.prog = P → X.w = w → X.K = K → X.calm = true → ∀ (pins : List (Addr × Obj)) (s : Shared) (σ : L2.St) (H : Hp), Inv X pins σ H s → src H →
      ∃ (fp wr : List Addr) (Y : Nat → Heap → Value → Heap → Prop) (St : Nat → Heap → Prop), GoesN P w X.A (.Tuple elts kk tpos) it fp wr n Y St ∧ (∀ b ∈ wr, b ∈ own) ∧ (∀ i, tn i s.heap → St i s.heap) ∧ (∀ i h, St i h → tn i h) ∧
        ∀ i h0 v h, i < n → Y i h0 v h → ∃ T vals vs, v = .ref T ∧ h0.objs.size ≤ T ∧ h.IsTuple T vals ∧ row i = some vs ∧ Vals vs vals.toList ∧ vs.length ≤ sizeLine) :
    Turn P w K (.Tuple elts kk tpos) (JR src n row) own it tn where
  mem := hmem
  obj := hobj
  keep := hkeep
  self := hself
  item := by
    intro X hP hw hK hc i pins s σ H E I hf st hg
    obtain ⟨hi, hs⟩ := hg
    obtain ⟨fp, wr, Y, St, W, hwr, up, dn, hY⟩ := hgo X hP hw hK hc pins s σ H I hs
    refine W.goes i s (fun v s2 => ∃ x H', Inv X pins σ H' s2 ∧ RelV x v ∧ (JR src n row).yld i H x H' ∧ tn (i + 1) s2.heap ∧ ∀ b ∈ own, H' b = none) E hi (up i st) fun v h' tk y st' k _ => ?_
    obtain ⟨T, vals, vs, rfl, hT, ht, hr, hv, hz⟩ := hY i _ v h' hi y
    have new : ObjOk X.prog X.w (upd H T (.tup vs)) h' T (.tup vs) := ⟨hz, vals.toList, hv, by simpa using (show IsTup h' T vals from ht)⟩
    have I1 : Inv X pins σ (upd H T (.tup vs)) { s with heap := h', toks := tk } := I.turnedNew (t' := tk) (ch := wr) (fun b o hb e => k b o hb e) (fun b hb => hf b (hwr b hb)) hT new
    refine ⟨.ref T, _, I1, rfl, ⟨T, vs, hr, rfl, I.hok.fresh hT, rfl⟩, dn _ _ st', fun b hb => ?_⟩
    obtain ⟨o, e, _⟩ := hobj i _ st b hb
    rw [upd_ne (Nat.ne_of_lt (Nat.lt_of_lt_of_le (Heap.lt_size e) hT))]
    exact (hf b hb).1
  done := by
    intro X hP hw hK hc i pins s σ H E I hf st hg
    obtain ⟨rfl, hs⟩ := hg
    obtain ⟨fp, wr, Y, St, W, hwr, up, dn, hY⟩ := hgo X hP hw hK hc pins s σ H I hs
    exact W.stops s (fun s2 => Inv X pins σ H s2) E (up _ st) fun h' tk k _ => I.turnedL (t' := tk) (ch := wr) (fun b o hb e => k b o hb e) fun b hb => hf b (hwr b hb)
theorem walk_rows {b : BC} {src : Hp → Prop} {n : Nat} {row : Nat → Option (List V)} {ds : List D} {H0 : Hp} (hn : n = ds.length) (h0 : src H0) (hk : ∀ H1 H2, src H1 → Keep H1 H2 → src H2)
    (hr : ∀ H i vs, src H → i < ds.length → row i = some vs → ∃ xs, ds[i]? = some (.tup xs) ∧ b.ImL H vs xs) : WalkD b (JR src n row) ds H0 := by
  subst hn
  refine ⟨src, fun i H x H' => ∃ T vs, row i = some vs ∧ x = .ref T ∧ H T = none ∧ H' = upd H T (.tup vs), ⟨fun i H hi h => ⟨hi, h⟩, fun H h => ⟨rfl, h⟩, fun i H x H' hi h y => y⟩, h0, hk, fun i H v H2 hi h y => ?_⟩
  obtain ⟨T, vs, e, rfl, hT, rfl⟩ := y
  obtain ⟨xs, hx, im⟩ := hr H i vs h hi e
  have u : Up b.tb H (upd H T (.tup vs)) := Up.new hT
  exact ⟨u, _, hx, .tup (SqT.of upd_same) (ImL.keep u.toKeep im)⟩
end DL
end
section
set_option Elab.async false
set_option linter.all false
set_option maxRecDepth 100000
set_option maxHeartbeats 2000000
namespace DL
open PySem PySem.Spec PyProof.Rows L2

def asS : D → Option (List D)
  | .lst xs => some xs
  | .tup xs => some xs
  | _ => none
theorem sqOf.keep {k : Bool} {K : PySem.W.Frag} {H H' : Hp} {a : Addr} {vs : List V} (h : (k = true ∧ SqT K H a vs) ∨ (k = false ∧ ∃ o, H a = some (.frz o (.lst vs)))) (q : Keep H H') :
    (k = true ∧ SqT K H' a vs) ∨ (k = false ∧ ∃ o, H' a = some (.frz o (.lst vs))) := by
  rcases h with ⟨e, h⟩ | ⟨e, o, h⟩
  · exact .inl ⟨e, SqT.kept q h⟩
  · exact .inr ⟨e, o, q.frz a o _ h⟩
/-- a list or tuple of data, as it stands for good -/
def Sq (K : PySem.W.Frag) (k : Bool) (H : Hp) (a : Addr) (vs : List V) : Prop := (k = true ∧ SqT K H a vs) ∨ (k = false ∧ ∃ o, H a = some (.frz o (.lst vs)))
theorem Sq.of {K : PySem.W.Frag} {k : Bool} {H : Hp} {a : Addr} {vs : List V} (h : Sq K k H a vs) : sqOf k K H a vs := by
  rcases h with ⟨rfl, h⟩ | ⟨rfl, o, h⟩
  · exact h
  · exact .inl (.inr ⟨o, h⟩)
theorem im_seq {b : BC} {H : Hp} {v : V} {d : D} {xs : List D} (i : b.Im H v d) (e : asS d = some xs) : ∃ a k vs, v = .ref a ∧ Sq b.K k H a vs ∧ b.ImL H vs xs := by
  cases i with
  | tup h r => cases e; exact ⟨_, true, _, rfl, .inl ⟨rfl, h⟩, r⟩
  | lst h r => cases e; exact ⟨_, false, _, rfl, .inr ⟨rfl, h⟩, r⟩
  | _ => cases e
theorem im_sq {b : BC} {H : Hp} {v : V} {d : D} {xs : List D} (i : b.Im H v d) (e : asS d = some xs) : ∃ a vs, v = .ref a ∧ (SqL b.K H a vs ∨ SqT b.K H a vs) ∧ b.ImL H vs xs := by
  obtain ⟨a, k, vs, rfl, h, r⟩ := im_seq i e
  refine ⟨a, vs, rfl, ?_, r⟩
  rcases h with ⟨_, h⟩ | ⟨_, o, h⟩
  · exact .inr h
  · exact .inl (.inl (.inr ⟨o, h⟩))

def enumR : Nat → List D → List D
  | _, [] => []
  | i, x :: xs => .tup [.int (i : Nat), x] :: enumR (i + 1) xs
theorem enumR_length : ∀ (xs : List D) (k : Nat), (enumR k xs).length = xs.length
  | [], _ => rfl
  | x :: xs, k => by rw [enumR, List.length_cons, List.length_cons, enumR_length xs]
theorem enumR_get : ∀ (xs : List D) (k i : Nat), (enumR k xs)[i]? = xs[i]?.map fun x => .tup [.int ((k + i : Nat) : Int), x]
  | [], _, _ => by simp [enumR]
  | x :: xs, k, 0 => by simp [enumR]
  | x :: xs, k, i + 1 => by
    rw [enumR, List.getElem?_cons_succ, List.getElem?_cons_succ, enumR_get xs, show k + 1 + i = k + (i + 1) by omega]
def zip2R : List D → List D → List D
  | x :: xs, y :: ys => .tup [x, y] :: zip2R xs ys
  | _, _ => []
theorem zip2R_length : ∀ (xs ys : List D), (zip2R xs ys).length = min xs.length ys.length
  | [], _ => by simp [zip2R]
  | _ :: _, [] => by simp [zip2R]
  | x :: xs, y :: ys => by rw [zip2R, List.length_cons, zip2R_length xs ys, List.length_cons, List.length_cons]; omega
theorem zip2R_get : ∀ (xs ys : List D) (i : Nat) (x y : D), xs[i]? = some x → ys[i]? = some y → (zip2R xs ys)[i]? = some (.tup [x, y])
  | [], _, _, _, _, h, _ => by simp at h
  | _ :: _, [], _, _, _, _, h => by simp at h
  | x :: xs, y :: ys, 0, _, _, h1, h2 => by simp at h1 h2; subst h1 h2; rfl
  | x :: xs, y :: ys, i + 1, _, _, h1, h2 => by
    rw [zip2R, List.getElem?_cons_succ]
    exact zip2R_get xs ys i _ _ (by simpa using h1) (by simpa using h2)
def zip3R : List D → List D → List D → List D
  | x :: xs, y :: ys, z :: zs => .tup [x, y, z] :: zip3R xs ys zs
  | _, _, _ => []
theorem zip3R_length : ∀ (xs ys zs : List D), (zip3R xs ys zs).length = min (min xs.length ys.length) zs.length
  | [], _, _ => by simp [zip3R]
  | _ :: _, [], _ => by simp [zip3R]
  | _ :: _, _ :: _, [] => by simp [zip3R]
  | x :: xs, y :: ys, z :: zs => by rw [zip3R, List.length_cons, zip3R_length xs ys, List.length_cons, List.length_cons, List.length_cons]; omega
theorem zip3R_get : ∀ (xs ys zs : List D) (i : Nat) (x y z : D), xs[i]? = some x → ys[i]? = some y → zs[i]? = some z → (zip3R xs ys zs)[i]? = some (.tup [x, y, z])
  | [], _, _, _, _, _, _, h, _, _ => by simp at h
  | _ :: _, [], _, _, _, _, _, _, h, _ => by simp at h
  | _ :: _, _ :: _, [], _, _, _, _, _, _, h => by simp at h
  | x :: xs, y :: ys, z :: zs, 0, _, _, _, h1, h2, h3 => by simp at h1 h2 h3; subst h1 h2 h3; rfl
  | x :: xs, y :: ys, z :: zs, i + 1, _, _, _, h1, h2, h3 => by
    rw [zip3R, List.getElem?_cons_succ]
    exact zip3R_get xs ys zs i _ _ _ (by simpa using h1) (by simpa using h2) (by simpa using h3)
def opEnum : List D → Option (List D)
  | [d] => (asS d).map (enumR 0)
  | _ => none
def opZip : List D → Option (List D)
  | [d, e] => match asS d, asS e with
    | some xs, some ys => some (zip2R xs ys)
    | _, _ => none
  | [d, e, f] => match asS d, asS e, asS f with
    | some xs, some ys, some zs => some (zip3R xs ys zs)
    | _, _, _ => none
  | _ => none
def upTo : Int → Nat → List D
  | _, 0 => []
  | a, n + 1 => .int a :: upTo (a + 1) n
theorem upTo_length : ∀ (n : Nat) (a : Int), (upTo a n).length = n
  | 0, _ => rfl
  | n + 1, a => by rw [upTo, List.length_cons, upTo_length n]
theorem upTo_get : ∀ (n : Nat) (a : Int) (i : Nat), i < n → (upTo a n)[i]? = some (.int (a + i))
  | 0, _, _, h => by omega
  | n + 1, a, 0, _ => by simp [upTo]
  | n + 1, a, i + 1, h => by
    rw [upTo, List.getElem?_cons_succ, upTo_get n (a + 1) i (by omega), show a + 1 + (i : Int) = a + ((i + 1 : Nat) : Int) by omega]
def upDn : Int → Int → Nat → List D
  | _, _, 0 => []
  | a, c, n + 1 => .int a :: upDn (a + c) c n
def opRange1 : List D → Option (List D)
  | [.int j] => if -1000000 ≤ j ∧ j ≤ 1000000 then some (upTo 0 j.toNat) else none
  | _ => none
def opRange2 : List D → Option (List D)
  | [.int i, .int j] => if -1000000 ≤ i ∧ i ≤ 1000000 ∧ -1000000 ≤ j ∧ j ≤ 1000000 then some (upTo i (j - i).toNat) else none
  | _ => none
@[reducible] def aI (f : Act D) : Act (List D) := f.bind fun d => lift (asS d)
@[reducible] def aIN (op : List D → Option (List D)) (f : Act (List D)) : Act (List D) := f.bind fun ds => lift (op ds)

section
variable {X : Cx} {b : BC} {x : XC} {e e2 e3 tg : Expr} {es : List Expr} {pos pos' tpos p : Pos} {f : Act D} {fs : Act (List D)} {elts : List Expr} {kk : Nat}
theorem fp_new {pins : List (Addr × Obj)} {σ : L2.St} {H : Hp} {s : Shared} (I : Inv X pins σ H s) {l : List Addr} (h : ∀ b ∈ l, s.heap.objs.size ≤ b) : ∀ b ∈ l, FpOk X pins H b := fun b hb => I.fpOk (h b hb) (I.hok.fresh (h b hb))
/-- a list or a tuple -/
theorem i_seq (hK : X.K = b.K) (he : PE X e (tD b x f)) : PI X tg e (wD b x (aI f)) := by
  refine ⟨fun pins s σ H R I ⟨ρ, a, q⟩ => ?_⟩
  refine thn (he.run pins s σ H (fun v H1 => ∃ a k vs, v = .ref a ∧ Sq b.K k H1 a vs ∧ R (cond k (Itt b.K a) (Itl b.K a)) H1) I
    (tD_step (Keep.refl H) a q fun d ρ1 v H1 a1 k1 i1 q1 => ?_)) fun v s1 ⟨xv, H1, I1, r1, q1⟩ => ?_
  · obtain ⟨xs, e, q2⟩ := lift_go q1
    obtain ⟨a, k, vs, rfl, hs, im⟩ := im_seq i1 e
    refine ⟨a, k, vs, rfl, hs, q2 _ H1 a1 k1 ?_⟩
    refine ⟨fun H => Sq b.K k H a vs ∧ b.ImL H vs xs, YAt vs, ?_, ⟨hs, im⟩, fun H1 H2 h kp => ⟨sqOf.keep h.1 kp, ImL.keep kp h.2⟩, fun i H v H2 hi h y => ?_⟩
    · rw [← ImL.length im]
      cases k with
      | true => exact walk_tup.mono (fun H h => by
          rcases h.1 with ⟨_, z⟩ | ⟨z, _⟩
          · exact z
          · cases z) fun i H x H' _ _ y => y
      | false => exact walk_list.mono (fun H h => by
          rcases h.1 with ⟨z, _⟩ | ⟨_, o, z⟩
          · cases z
          · exact .inl (.inr ⟨o, z⟩)) fun i H x H' _ _ y => y
    · obtain ⟨rfl, hv⟩ := y
      obtain ⟨d, hd, i⟩ := ImL.get h.2 hv
      exact ⟨Up.refl _ _, d, hd, i⟩
  · obtain ⟨a, k, vs, rfl, hs, hw⟩ := q1
    obtain rfl : v = Value.ref a := r1
    have fr : ∀ b ∈ [s1.heap.objs.size], FpOk X pins H1 b := fp_new I1 fun b hb => by rw [List.mem_singleton.mp hb]; exact Nat.le_refl _
    cases k with
    | true =>
      obtain ⟨its, rv, p, hz⟩ := I1.tuple (by rw [hK]; rcases hs with ⟨_, z⟩ | ⟨z, _⟩; exact z; cases z)
      refine wpAny_pyIter_tuple (show s1.heap.IsTuple a its.toArray from p) ?_
      refine ⟨s1.heap.objs.size, [s1.heap.objs.size], _, _, H1, rfl, I1.kept (t' := s1.toks) fun b o e => Heap.get?_push_of_some _ e, turn_tuple a _, ⟨_, Heap.get?_push_size _ rfl, rfl, rfl⟩, fr, by rw [hK]; exact hw⟩
    | false =>
      obtain ⟨its, rv, p, hz⟩ := I1.list (xs := vs) (a := a) (by rcases hs with ⟨z, _⟩ | ⟨_, o, z⟩; cases z; exact .inl (.inr ⟨o, z⟩))
      refine wpAny_pyIter_list p.isList ?_
      refine ⟨s1.heap.objs.size, [s1.heap.objs.size], _, _, H1, rfl, I1.kept (t' := s1.toks) fun b o e => Heap.get?_push_of_some _ e, turn_list a _, ⟨_, Heap.get?_push_size _ rfl, rfl, rfl⟩, fr, by rw [hK]; exact hw⟩
/-- range(n), range(a, b) -/
theorem walk_up {b : BC} {lo : Int} {n : Nat} {H : Hp} : WalkD b (Itr lo n) (upTo lo n) H := by
  refine ⟨fun _ => True, _, by rw [upTo_length]; exact walk_range, trivial, fun _ _ _ _ => trivial, fun i H v H2 hi _ y => ?_⟩
  obtain ⟨rfl, rfl⟩ := y
  rw [upTo_length] at hi
  exact ⟨Up.refl _ _, _, upTo_get n lo i hi, .int _⟩
theorem i_range1 (hg : Gl X "range") (hm : X.mg "range" = none) (ha : PA X [e] (tL b x fs)) (hs : starEach [e] X.env = [(false, eval e X.env)] := by rfl) : PI X tg (.Call (.Name "range" p) [e] [] pos) (wD b x (aIN opRange1 fs)) :=
  (pi_range1 hg hm ha hs).mono fun σ H R ⟨ρ, a, q⟩ => tL_step (Keep.refl H) a q fun ds ρ1 vs H1 a1 k1 i1 q1 => by
    obtain ⟨xs, e, q2⟩ := lift_go q1
    unfold opRange1 at e
    split at e
    · rename_i j
      split at e
      · rename_i hj
        cases e
        cases i1 with
        | cons i1 ir =>
          cases ir
          cases i1
          exact ⟨j, rfl, by omega, by omega, q2 _ H1 a1 k1 walk_up⟩
      · cases e
    · cases e
theorem i_range2 (hg : Gl X "range") (hm : X.mg "range" = none) (ha : PA X [e, e2] (tL b x fs)) (hs : starEach [e, e2] X.env = [(false, eval e X.env), (false, eval e2 X.env)] := by rfl) (hs2 : starEach [e2] X.env = [(false, eval e2 X.env)] := by rfl) : PI X tg (.Call (.Name "range" p) [e, e2] [] pos) (wD b x (aIN opRange2 fs)) :=
  (pi_range2 hg hm ha hs hs2).mono fun σ H R ⟨ρ, a, q⟩ => tL_step (Keep.refl H) a q fun ds ρ1 vs H1 a1 k1 i1 q1 => by
    obtain ⟨xs, e, q2⟩ := lift_go q1
    unfold opRange2 at e
    split at e
    · rename_i i j
      split at e
      · rename_i hj
        cases e
        cases i1 with
        | cons i1 ir =>
          cases ir with
          | cons i2 ir2 =>
            cases ir2
            cases i1
            cases i2
            exact ⟨i, j, rfl, by omega, q2 _ H1 a1 k1 walk_up⟩
      · cases e
    · cases e
/-- enumerate(xs), to a target of two names -/
theorem turn_enumD {P : Program} {w : World} {K : PySem.W.Frag} {k : Bool} {a N : Addr} {vs : List V} {E : Hp → Prop} (hz : 2 ≤ sizeLine) :
    Turn P w K (.Tuple elts kk tpos) (JR (fun H => Sq K k H a vs ∧ a < N ∧ E H) vs.length fun i => (vs[i]?).map fun v => [V.int (i : Nat), v]) [N + 1, N] (N + 1) (fun i h => (∃ old, IsEnum h (N + 1) N ((0 : Int) + (i : Nat)) old) ∧ itOf k h N a i) := by
  refine turn_rows (by simp) (fun i h st c hc => ?_) (fun i h h' st kp => ?_) (fun A i s Q E st q => ?_) fun X hP hw hK hc pins s σ H I hs => ?_
  · obtain ⟨⟨old, he⟩, hi⟩ := st
    have e' : c = N + 1 ∨ c = N := by simpa using hc
    rcases e' with q | q
    · rw [q]; exact ⟨_, he, fun v q => nomatch q⟩
    · rw [q]; exact hi.obj
  · obtain ⟨⟨old, he⟩, hi⟩ := st
    exact ⟨⟨old, kp _ (by simp) _ he⟩, hi.at fun o e => kp _ (by simp) o e⟩
  · obtain ⟨⟨old, he⟩, hi⟩ := st
    exact wpAny_pyIter_enum he q
  · subst hP hw hK
    obtain ⟨hsq, hlt, _⟩ := hs
    obtain ⟨its, rv, sr, _⟩ := src_of I hsq.of
    have hh : X.A.in1.handled = none := I.ok.hd hc
    have sep : N + 1 ∉ [N, a] := fun z => by
      have e' : N + 1 = N ∨ N + 1 = a := by simpa using z
      have h9 : (a : Nat) < N := hlt
      rcases e' with q | q
      · exact absurd q (Nat.succ_ne_self N)
      · rw [← q] at h9; exact absurd h9 (Nat.not_lt.mpr (Nat.le_succ N))
    have W := GoesN.enumFrom (prog := X.prog) (w := X.w) (A := X.A) (elts := elts) (x1 := kk) (pos := tpos) 0 (draws_src (prog := X.prog) (w := X.w) hh k N a (Nat.ne_of_lt hlt) its.toArray) (N + 1) (Nat.succ_ne_self N) sep (by simp)
    rw [size_vals rv] at W
    refine ⟨_, _, _, _, W, fun b hb => hb, fun i st => ⟨st.1, st.2, sr⟩, fun i h st => ⟨st.1, st.2.1⟩, fun i h0 v h hi y => ?_⟩
    obtain ⟨T, t, u, rfl, hT, hu, ht⟩ := y
    have hi2 : i < vs.length := hi
    have hv : vs[i]? = some vs[i] := List.getElem?_eq_getElem hi2
    obtain ⟨u', hu', ru⟩ := rv.get hv
    have eu : u = u' := by
      have z : its.toArray[i]? = some u' := by simpa using hu'
      rw [z] at hu
      exact (Option.some.inj hu).symm
    subst eu
    refine ⟨T, _, [V.int (i : Nat), vs[i]], rfl, hT, ht, by rw [hv]; rfl, .cons ⟨t, by rw [Int.zero_add]⟩ (.cons ru .nil), hz⟩
theorem i_enum (hK : X.K = b.K) (hg : Gl X "enumerate") (hm : X.mg "enumerate" = none) (ha : PA X [e] (tL b x fs)) (hs : starEach [e] X.env = [(false, eval e X.env)] := by rfl) : PI X (.Tuple elts kk tpos) (.Call (.Name "enumerate" p) [e] [] pos) (wD b x (aIN opEnum fs)) := by
  refine ⟨fun pins s σ H R I ⟨ρ, a, q⟩ => ?_⟩
  refine Call_ (ld_blt I hg hm boot_enumerate (PyProof.Rows.callWith_type1 (thn (ha.run pos pins s σ H (fun us H1 => ∃ (a : Addr) (k : Bool) (vs : List V) (E : Hp → Prop), us = [.ref a] ∧ Sq b.K k H1 a vs ∧ ∀ N : Addr, a < N → R (JR (fun H => Sq b.K k H a vs ∧ a < N ∧ E H) vs.length fun i => (vs[i]?).map fun v => [V.int (i : Nat), v]) H1) I
    (tL_step (Keep.refl H) a q fun ds ρ1 us H1 a1 k1 i1 q1 => ?_)) fun us s1 ⟨vs, H1, I1, r1, q1⟩ => ?_) hs rfl))
  · obtain ⟨rows, e, q2⟩ := lift_go q1
    cases i1 with
    | nil => cases e
    | cons i ir =>
      cases ir with
      | cons _ _ => cases e
      | nil =>
        rename_i v d
        have e' : (asS d).map (enumR 0) = some rows := e
        obtain ⟨xs, e1, rfl⟩ := Option.map_eq_some_iff.mp e'
        obtain ⟨a, k, vs, rfl, hsq, im⟩ := im_seq i e1
        refine ⟨a, k, vs, fun H => b.ImL H vs xs, rfl, hsq, fun N hN => q2 _ H1 a1 k1 (walk_rows (by rw [enumR_length, ImL.length im]) ⟨hsq, hN, im⟩ (fun H1 H2 h kp => ⟨sqOf.keep h.1 kp, h.2.1, ImL.keep kp h.2.2⟩) fun H i ws h hi er => ?_)⟩
        obtain ⟨v, hv, rfl⟩ := Option.map_eq_some_iff.mp er
        obtain ⟨d, hd, iv⟩ := ImL.get h.2.2 hv
        exact ⟨[.int (i : Nat), d], by rw [enumR_get, hd, Option.map_some, Nat.zero_add], .cons (.int _) (.cons iv .nil)⟩
  · obtain ⟨a, k, vs, E, rfl, hsq, qR⟩ := q1
    cases r1 with
    | cons r rr =>
      cases rr
      cases r
      obtain ⟨its, rv, sr, hlt⟩ := src_of I1 (k := k) (a := a) (xs := vs) (by rw [hK]; exact hsq.of)
      refine dl_enum_begins (begins_src k a its.toArray) sr fun h' he hit hsz hk => wpAny_pyIter_enum he ?_
      have I2 : Inv X pins σ H1 { s1 with heap := h' } := I1.kept (t' := s1.toks) hk
      refine ⟨s1.heap.objs.size + 1, [s1.heap.objs.size + 1, s1.heap.objs.size], _, _, H1, rfl, I2, turn_enumD (k := k) (a := a) (vs := vs) (by decide), ⟨⟨.none, he⟩, itOf.new hit⟩, fp_new I1 fun c hc => ?_, by rw [hK]; exact qR _ hlt⟩
      have e' : c = s1.heap.objs.size + 1 ∨ c = s1.heap.objs.size := by simpa using hc
      rcases e' with z | z
      · rw [z]; exact Nat.le_succ _
      · rw [z]; exact Nat.le_refl _
end
end DL
end
section
set_option Elab.async false
set_option linter.all false
set_option maxRecDepth 100000
set_option maxHeartbeats 2000000
namespace DL
open PySem PySem.Spec PyProof.Rows L2
def row2 (vs us : List V) (i : Nat) : Option (List V) := match vs[i]?, us[i]? with
  | some v, some u => some [v, u]
  | _, _ => none
def row3 (vs us ws : List V) (i : Nat) : Option (List V) := match vs[i]?, us[i]?, ws[i]? with
  | some v, some u, some w => some [v, u, w]
  | _, _, _ => none
theorem ar_get {its : List Value} {vs : List V} {i : Nat} {u : Value} (rv : Vals vs its) (hu : its.toArray[i]? = some u) : ∃ v, vs[i]? = some v ∧ RelV v u := by
  have hu' : its[i]? = some u := by simpa using hu
  have hl : i < its.length := (List.getElem?_eq_some_iff.mp hu').1
  have hv : vs[i]? = some (vs[i]'(by rw [rv.length]; exact hl)) := List.getElem?_eq_getElem _
  obtain ⟨u', e, r⟩ := rv.get hv
  rw [hu'] at e; cases e
  exact ⟨_, hv, r⟩
section
variable {X : Cx} {b : BC} {x : XC} {e e2 e3 tg : Expr} {es : List Expr} {pos pos' tpos p : Pos} {f : Act D} {fs : Act (List D)} {elts : List Expr} {kk : Nat}
theorem turn_zip2D {P : Program} {w : World} {K : PySem.W.Frag} {k1 k2 : Bool} {a1 a2 N : Addr} {v1 v2 : List V} {E : Hp → Prop} (hz : 2 ≤ sizeLine) :
    Turn P w K (.Tuple elts kk tpos) (JR (fun H => (Sq K k1 H a1 v1 ∧ a1 < N) ∧ (Sq K k2 H a2 v2 ∧ a2 < N) ∧ E H) (min v1.length v2.length) (row2 v1 v2)) [N + 4, N + 2, N + 3, N, N + 1] (N + 4)
      (fun i h => IsZip h (N + 4) (N + 2) (N + 3) .none ∧ IsTupOf2 h (N + 2) (.ref N) (.ref (N + 1)) ∧ (∃ c1 c2, IsTupOf2 h (N + 3) c1 c2) ∧ itOf k1 h N a1 i ∧ itOf k2 h (N + 1) a2 i) := by
  refine turn_rows (by simp) (fun i h st c hc => ?_) (fun i h h' st kp => ?_) (fun A i s Q E st q => ?_) fun X hP hw hK hc pins s σ H I hs => ?_
  · obtain ⟨hz, hT, ⟨c1, c2, hO⟩, h1, h2⟩ := st
    have e' : c = N + 4 ∨ c = N + 2 ∨ c = N + 3 ∨ c = N ∨ c = N + 1 := by simpa using hc
    rcases e' with q | q | q | q | q
    · rw [q]; exact ⟨_, hz, fun v q => nomatch q⟩
    · rw [q]; exact ⟨_, hT, fun v q => nomatch q⟩
    · rw [q]; exact ⟨_, hO, fun v q => nomatch q⟩
    · rw [q]; exact h1.obj
    · rw [q]; exact h2.obj
  · obtain ⟨hz, hT, ⟨c1, c2, hO⟩, h1, h2⟩ := st
    exact ⟨kp _ (by simp) _ hz, kp _ (by simp) _ hT, ⟨c1, c2, kp _ (by simp) _ hO⟩, h1.at fun o e => kp _ (by simp) o e, h2.at fun o e => kp _ (by simp) o e⟩
  · exact wpAny_pyIter_zip st.1 q
  · subst hP hw hK
    obtain ⟨⟨s1, l1⟩, ⟨s2, l2⟩, _⟩ := hs
    obtain ⟨i1, r1, q1, _⟩ := src_of I s1.of
    obtain ⟨i2, r2, q2, _⟩ := src_of I s2.of
    have hh : X.A.in1.handled = none := I.ok.hd hc
    have S := zip_sep2 (N := N) (fp1 := [a1]) (fp2 := [a2]) (fun b hb => by rw [List.mem_singleton.mp hb]; exact l1) (fun b hb => by rw [List.mem_singleton.mp hb]; exact l2)
    have W := GoesN.zip2 (prog := X.prog) (w := X.w) (A := X.A) (elts := elts) (x1 := kk) (pos := tpos) S (draws_src (prog := X.prog) (w := X.w) hh k1 N a1 (Nat.ne_of_lt l1) i1.toArray) (draws_src (prog := X.prog) (w := X.w) hh k2 (N + 1) a2 (Nat.ne_of_lt (Nat.lt_succ_of_lt l2)) i2.toArray)
    rw [size_vals r1, size_vals r2] at W
    refine ⟨_, _, _, _, W, fun c hc => ?_, fun i st => ⟨st.1, st.2.1, st.2.2.1, ⟨st.2.2.2.1, q1⟩, ⟨st.2.2.2.2, q2⟩⟩, fun i h st => ⟨st.1, st.2.1, st.2.2.1, st.2.2.2.1.1, st.2.2.2.2.1⟩, fun i h0 v h hi y => ?_⟩
    · have e' : c = N + 4 ∨ c = N + 3 ∨ c = N ∨ c = N + 1 := by simpa using hc
      rcases e' with q | q | q | q <;> simp [q]
    · obtain ⟨T, x, y, rfl, hT, hx, hy, ht⟩ := y
      obtain ⟨v, hv, rv⟩ := ar_get r1 hx
      obtain ⟨u, hu, ru⟩ := ar_get r2 hy
      exact ⟨T, _, [v, u], rfl, hT, ht, by unfold row2; rw [hv, hu], .cons rv (.cons ru .nil), hz⟩
theorem turn_zip3D {P : Program} {w : World} {K : PySem.W.Frag} {k1 k2 k3 : Bool} {a1 a2 a3 N : Addr} {v1 v2 v3 : List V} {E : Hp → Prop} (hz : 3 ≤ sizeLine) :
    Turn P w K (.Tuple elts kk tpos) (JR (fun H => (Sq K k1 H a1 v1 ∧ a1 < N) ∧ (Sq K k2 H a2 v2 ∧ a2 < N) ∧ (Sq K k3 H a3 v3 ∧ a3 < N) ∧ E H) (min (min v1.length v2.length) v3.length) (row3 v1 v2 v3)) [N + 5, N + 3, N + 4, N, N + 1, N + 2] (N + 5)
      (fun i h => IsZip h (N + 5) (N + 3) (N + 4) .none ∧ IsTupOf3 h (N + 3) (.ref N) (.ref (N + 1)) (.ref (N + 2)) ∧ (∃ c1 c2 c3, IsTupOf3 h (N + 4) c1 c2 c3) ∧ itOf k1 h N a1 i ∧ itOf k2 h (N + 1) a2 i ∧ itOf k3 h (N + 2) a3 i) := by
  refine turn_rows (by simp) (fun i h st c hc => ?_) (fun i h h' st kp => ?_) (fun A i s Q E st q => ?_) fun X hP hw hK hc pins s σ H I hs => ?_
  · obtain ⟨hz, hT, ⟨c1, c2, c3, hO⟩, h1, h2, h3⟩ := st
    have e' : c = N + 5 ∨ c = N + 3 ∨ c = N + 4 ∨ c = N ∨ c = N + 1 ∨ c = N + 2 := by simpa using hc
    rcases e' with q | q | q | q | q | q
    · rw [q]; exact ⟨_, hz, fun v q => nomatch q⟩
    · rw [q]; exact ⟨_, hT, fun v q => nomatch q⟩
    · rw [q]; exact ⟨_, hO, fun v q => nomatch q⟩
    · rw [q]; exact h1.obj
    · rw [q]; exact h2.obj
    · rw [q]; exact h3.obj
  · obtain ⟨hz, hT, ⟨c1, c2, c3, hO⟩, h1, h2, h3⟩ := st
    exact ⟨kp _ (by simp) _ hz, kp _ (by simp) _ hT, ⟨c1, c2, c3, kp _ (by simp) _ hO⟩, h1.at fun o e => kp _ (by simp) o e, h2.at fun o e => kp _ (by simp) o e, h3.at fun o e => kp _ (by simp) o e⟩
  · exact wpAny_pyIter_zip st.1 q
  · subst hP hw hK
    obtain ⟨⟨s1, l1⟩, ⟨s2, l2⟩, ⟨s3, l3⟩, _⟩ := hs
    obtain ⟨i1, r1, q1, _⟩ := src_of I s1.of
    obtain ⟨i2, r2, q2, _⟩ := src_of I s2.of
    obtain ⟨i3, r3, q3, _⟩ := src_of I s3.of
    have hh : X.A.in1.handled = none := I.ok.hd hc
    have S := zip_sep3 (N := N) (fp1 := [a1]) (fp2 := [a2]) (fp3 := [a3]) (fun b hb => by rw [List.mem_singleton.mp hb]; exact l1) (fun b hb => by rw [List.mem_singleton.mp hb]; exact l2) (fun b hb => by rw [List.mem_singleton.mp hb]; exact l3)
    have W := GoesN.zip3 (prog := X.prog) (w := X.w) (A := X.A) (elts := elts) (x1 := kk) (pos := tpos) S (draws_src (prog := X.prog) (w := X.w) hh k1 N a1 (Nat.ne_of_lt l1) i1.toArray) (draws_src (prog := X.prog) (w := X.w) hh k2 (N + 1) a2 (Nat.ne_of_lt (Nat.lt_succ_of_lt l2)) i2.toArray) (draws_src (prog := X.prog) (w := X.w) hh k3 (N + 2) a3 (Nat.ne_of_lt (Nat.lt_succ_of_lt (Nat.lt_succ_of_lt l3))) i3.toArray)
    rw [size_vals r1, size_vals r2, size_vals r3] at W
    refine ⟨_, _, _, _, W, fun c hc => ?_, fun i st => ⟨st.1, st.2.1, st.2.2.1, ⟨st.2.2.2.1, q1⟩, ⟨st.2.2.2.2.1, q2⟩, ⟨st.2.2.2.2.2, q3⟩⟩, fun i h st => ⟨st.1, st.2.1, st.2.2.1, st.2.2.2.1.1, st.2.2.2.2.1.1, st.2.2.2.2.2.1⟩, fun i h0 v h hi y => ?_⟩
    · have e' : c = N + 5 ∨ c = N + 4 ∨ c = N ∨ c = N + 1 ∨ c = N + 2 := by simpa using hc
      rcases e' with q | q | q | q | q <;> simp [q]
    · obtain ⟨T, x, y, z, rfl, hT, hx, hy, hw', ht⟩ := y
      obtain ⟨v, hv, rv⟩ := ar_get r1 hx
      obtain ⟨u, hu, ru⟩ := ar_get r2 hy
      obtain ⟨z', hz', rz⟩ := ar_get r3 hw'
      exact ⟨T, _, [v, u, z'], rfl, hT, ht, by unfold row3; rw [hv, hu, hz'], .cons rv (.cons ru (.cons rz .nil)), hz⟩
def opZip2 : List D → Option (List D)
  | [d, e] => (asS d).bind fun xs => (asS e).map fun ys => zip2R xs ys
  | _ => none
def opZip3 : List D → Option (List D)
  | [d, e, f] => (asS d).bind fun xs => (asS e).bind fun ys => (asS f).map fun zs => zip3R xs ys zs
  | _ => none
theorem fresh_add {N : Nat} {l : List Nat} (h : ∀ c ∈ l, N ≤ c) : ∀ c ∈ l, N ≤ c := h
theorem i_zip2 (hK : X.K = b.K) (hg : Gl X "zip") (hm : X.mg "zip" = none) (ha : PA X [e, e2] (tL b x fs))
    (hs : starEach [e, e2] X.env = (false, eval e X.env) :: starEach [e2] X.env := by rfl) (hpl : (backTo pos (starEach [e2] X.env)).any (·.1) = false := by rfl) : PI X (.Tuple elts kk tpos) (.Call (.Name "zip" p) [e, e2] [] pos) (wD b x (aIN opZip2 fs)) := by
  refine ⟨fun pins s σ H R I ⟨ρ, a, q⟩ => ?_⟩
  refine Call_ (ld_blt I hg hm boot_zip (PyProof.Rows.callWith_type1 (thn (ha.run pos pins s σ H (fun us H1 => ∃ (a1 a2 : Addr) (k1 k2 : Bool) (v1 v2 : List V) (E : Hp → Prop), us = [.ref a1, .ref a2] ∧ Sq b.K k1 H1 a1 v1 ∧ Sq b.K k2 H1 a2 v2 ∧ ∀ N : Addr, a1 < N → a2 < N → R (JR (fun H => (Sq b.K k1 H a1 v1 ∧ a1 < N) ∧ (Sq b.K k2 H a2 v2 ∧ a2 < N) ∧ E H) (min v1.length v2.length) (row2 v1 v2)) H1) I
    (tL_step (Keep.refl H) a q fun ds ρ1 us H1 a1 kp1 im q1 => ?_)) fun us s1 ⟨vs, H1, I1, r1, q1⟩ => ?_) hs hpl))
  · obtain ⟨rows, e, q2⟩ := lift_go q1
    unfold opZip2 at e
    split at e
    · rename_i d1 d2
      obtain ⟨xs, e1, e⟩ := Option.bind_eq_some_iff.mp e
      obtain ⟨ys, e2, rfl⟩ := Option.map_eq_some_iff.mp e
      cases im with
      | cons m1 im =>
        cases im with
        | cons m2 im =>
          cases im
          obtain ⟨b1, k1, v1, rfl, s1, t1⟩ := im_seq m1 e1
          obtain ⟨b2, k2, v2, rfl, s2, t2⟩ := im_seq m2 e2
          refine ⟨b1, b2, k1, k2, v1, v2, fun H => b.ImL H v1 xs ∧ b.ImL H v2 ys, rfl, s1, s2, fun N l1 l2 => q2 _ H1 a1 kp1 (walk_rows (by rw [zip2R_length, ImL.length t1, ImL.length t2]) ⟨⟨s1, l1⟩, ⟨s2, l2⟩, t1, t2⟩
            (fun H1 H2 h kp => ⟨⟨sqOf.keep h.1.1 kp, h.1.2⟩, ⟨sqOf.keep h.2.1.1 kp, h.2.1.2⟩, ImL.keep kp h.2.2.1, ImL.keep kp h.2.2.2⟩) fun H i ws h hi er => ?_)⟩
          unfold row2 at er
          split at er
          · rename_i x y ex ey
            cases er
            obtain ⟨d1, g1, j1⟩ := ImL.get h.2.2.1 ex
            obtain ⟨d2, g2, j2⟩ := ImL.get h.2.2.2 ey
            exact ⟨_, zip2R_get xs ys i _ _ g1 g2, .cons j1 (.cons j2 .nil)⟩
          · cases er
    · cases e
  · obtain ⟨a1, a2, k1, k2, v1, v2, E, rfl, h1, h2, qR⟩ := q1
    cases r1 with
    | cons r rr =>
      cases rr with
      | cons r' rr =>
        cases rr
        cases r
        cases r'
        obtain ⟨i1, rv1, sr1, l1⟩ := src_of I1 (k := k1) (a := a1) (xs := v1) (by rw [hK]; exact h1.of)
        obtain ⟨i2, rv2, sr2, l2⟩ := src_of I1 (k := k2) (a := a2) (xs := v2) (by rw [hK]; exact h2.of)
        refine zip_begins2 (begins_src k1 a1 i1.toArray) (begins_src k2 a2 i2.toArray) sr1 sr2 fun h' hz hT hO o1 o2 hsz hk => wpAny_pyIter_zip hz ?_
        have I2 : Inv X pins σ H1 { s1 with heap := h' } := I1.kept (t' := s1.toks) hk
        refine ⟨s1.heap.objs.size + 4, [s1.heap.objs.size + 4, s1.heap.objs.size + 2, s1.heap.objs.size + 3, s1.heap.objs.size, s1.heap.objs.size + 1], _, _, H1, rfl, I2, turn_zip2D (k1 := k1) (k2 := k2) (a1 := a1) (a2 := a2) (v1 := v1) (v2 := v2) (by decide), ⟨hz, hT, ⟨_, _, hO⟩, itOf.new o1, itOf.new o2⟩, fp_new I1 fun c hc => ?_, by rw [hK]; exact qR _ l1 l2⟩
        have e' : c = s1.heap.objs.size + 4 ∨ c = s1.heap.objs.size + 2 ∨ c = s1.heap.objs.size + 3 ∨ c = s1.heap.objs.size ∨ c = s1.heap.objs.size + 1 := by simpa using hc
        rcases e' with z | z | z | z | z
        · rw [z]; exact Nat.le_add_right _ _
        · rw [z]; exact Nat.le_add_right _ _
        · rw [z]; exact Nat.le_add_right _ _
        · rw [z]; exact Nat.le_refl _
        · rw [z]; exact Nat.le_add_right _ _
theorem i_zip3 (hK : X.K = b.K) (hg : Gl X "zip") (hm : X.mg "zip" = none) (ha : PA X [e, e2, e3] (tL b x fs))
    (hs : starEach [e, e2, e3] X.env = (false, eval e X.env) :: starEach [e2, e3] X.env := by rfl) (hpl : (backTo pos (starEach [e2, e3] X.env)).any (·.1) = false := by rfl) : PI X (.Tuple elts kk tpos) (.Call (.Name "zip" p) [e, e2, e3] [] pos) (wD b x (aIN opZip3 fs)) := by
  refine ⟨fun pins s σ H R I ⟨ρ, a, q⟩ => ?_⟩
  refine Call_ (ld_blt I hg hm boot_zip (PyProof.Rows.callWith_type1 (thn (ha.run pos pins s σ H (fun us H1 => ∃ (a1 a2 a3 : Addr) (k1 k2 k3 : Bool) (v1 v2 v3 : List V) (E : Hp → Prop), us = [.ref a1, .ref a2, .ref a3] ∧ Sq b.K k1 H1 a1 v1 ∧ Sq b.K k2 H1 a2 v2 ∧ Sq b.K k3 H1 a3 v3 ∧ ∀ N : Addr, a1 < N → a2 < N → a3 < N → R (JR (fun H => (Sq b.K k1 H a1 v1 ∧ a1 < N) ∧ (Sq b.K k2 H a2 v2 ∧ a2 < N) ∧ (Sq b.K k3 H a3 v3 ∧ a3 < N) ∧ E H) (min (min v1.length v2.length) v3.length) (row3 v1 v2 v3)) H1) I
    (tL_step (Keep.refl H) a q fun ds ρ1 us H1 a1 kp1 im q1 => ?_)) fun us s1 ⟨vs, H1, I1, r1, q1⟩ => ?_) hs hpl))
  · obtain ⟨rows, e, q2⟩ := lift_go q1
    unfold opZip3 at e
    split at e
    · rename_i d1 d2 d3
      obtain ⟨xs, e1, e⟩ := Option.bind_eq_some_iff.mp e
      obtain ⟨ys, e2, e⟩ := Option.bind_eq_some_iff.mp e
      obtain ⟨zs, e3, rfl⟩ := Option.map_eq_some_iff.mp e
      cases im with
      | cons m1 im =>
        cases im with
        | cons m2 im =>
          cases im with
          | cons m3 im =>
            cases im
            obtain ⟨b1, k1, v1, rfl, s1, t1⟩ := im_seq m1 e1
            obtain ⟨b2, k2, v2, rfl, s2, t2⟩ := im_seq m2 e2
            obtain ⟨b3, k3, v3, rfl, s3, t3⟩ := im_seq m3 e3
            refine ⟨b1, b2, b3, k1, k2, k3, v1, v2, v3, fun H => b.ImL H v1 xs ∧ b.ImL H v2 ys ∧ b.ImL H v3 zs, rfl, s1, s2, s3, fun N l1 l2 l3 => q2 _ H1 a1 kp1 (walk_rows (by rw [zip3R_length, ImL.length t1, ImL.length t2, ImL.length t3]) ⟨⟨s1, l1⟩, ⟨s2, l2⟩, ⟨s3, l3⟩, t1, t2, t3⟩
              (fun H1 H2 h kp => ⟨⟨sqOf.keep h.1.1 kp, h.1.2⟩, ⟨sqOf.keep h.2.1.1 kp, h.2.1.2⟩, ⟨sqOf.keep h.2.2.1.1 kp, h.2.2.1.2⟩, ImL.keep kp h.2.2.2.1, ImL.keep kp h.2.2.2.2.1, ImL.keep kp h.2.2.2.2.2⟩) fun H i ws h hi er => ?_)⟩
            unfold row3 at er
            split at er
            · rename_i x y z ex ey ez
              cases er
              obtain ⟨d1, g1, j1⟩ := ImL.get h.2.2.2.1 ex
              obtain ⟨d2, g2, j2⟩ := ImL.get h.2.2.2.2.1 ey
              obtain ⟨d3, g3, j3⟩ := ImL.get h.2.2.2.2.2 ez
              exact ⟨_, zip3R_get xs ys zs i _ _ _ g1 g2 g3, .cons j1 (.cons j2 (.cons j3 .nil))⟩
            · cases er
    · cases e
  · obtain ⟨a1, a2, a3, k1, k2, k3, v1, v2, v3, E, rfl, h1, h2, h3, qR⟩ := q1
    cases r1 with
    | cons r rr =>
      cases rr with
      | cons r' rr =>
        cases rr with
        | cons r'' rr =>
          cases rr
          cases r
          cases r'
          cases r''
          obtain ⟨i1, rv1, sr1, l1⟩ := src_of I1 (k := k1) (a := a1) (xs := v1) (by rw [hK]; exact h1.of)
          obtain ⟨i2, rv2, sr2, l2⟩ := src_of I1 (k := k2) (a := a2) (xs := v2) (by rw [hK]; exact h2.of)
          obtain ⟨i3, rv3, sr3, l3⟩ := src_of I1 (k := k3) (a := a3) (xs := v3) (by rw [hK]; exact h3.of)
          refine zip_begins3 (begins_src k1 a1 i1.toArray) (begins_src k2 a2 i2.toArray) (begins_src k3 a3 i3.toArray) sr1 sr2 sr3 fun h' hz hT hO o1 o2 o3 hsz hk => wpAny_pyIter_zip hz ?_
          have I2 : Inv X pins σ H1 { s1 with heap := h' } := I1.kept (t' := s1.toks) hk
          refine ⟨s1.heap.objs.size + 5, [s1.heap.objs.size + 5, s1.heap.objs.size + 3, s1.heap.objs.size + 4, s1.heap.objs.size, s1.heap.objs.size + 1, s1.heap.objs.size + 2], _, _, H1, rfl, I2, turn_zip3D (k1 := k1) (k2 := k2) (k3 := k3) (a1 := a1) (a2 := a2) (a3 := a3) (v1 := v1) (v2 := v2) (v3 := v3) (by decide), ⟨hz, hT, ⟨_, _, _, hO⟩, itOf.new o1, itOf.new o2, itOf.new o3⟩, fp_new I1 fun c hc => ?_, by rw [hK]; exact qR _ l1 l2 l3⟩
          have e' : c = s1.heap.objs.size + 5 ∨ c = s1.heap.objs.size + 3 ∨ c = s1.heap.objs.size + 4 ∨ c = s1.heap.objs.size ∨ c = s1.heap.objs.size + 1 ∨ c = s1.heap.objs.size + 2 := by simpa using hc
          rcases e' with z | z | z | z | z | z
          · rw [z]; exact Nat.le_add_right _ _
          · rw [z]; exact Nat.le_add_right _ _
          · rw [z]; exact Nat.le_add_right _ _
          · rw [z]; exact Nat.le_refl _
          · rw [z]; exact Nat.le_add_right _ _
          · rw [z]; exact Nat.le_add_right _ _
end
end DL
end
section
set_option Elab.async false
set_option linter.all false
set_option maxRecDepth 100000
set_option maxHeartbeats 2000000
namespace DL
open PySem PySem.Spec PyProof.Rows L2

abbrev BC.wB (b : BC) (B' : Hp) : BC := { b with B := B' }
section
variable {b : BC} {σ σ2 : L2.St} {ρ : DEnv} {H H' : Hp} {p : Addr}
theorem At.notNew (a : At b σ ρ H) (hp : H p = none) : ∀ (j : Nat) (y : Cell), ρ[j]? = some (some y) → y.own → σ[j]? ≠ some (some (V.ref p)) := fun j y e o z => by
  obtain ⟨v, hv, c⟩ := a.cells j y e
  rw [hv] at z
  cases z
  cases y with
  | d x => exact o
  | l xs =>
    obtain ⟨q, vs, e1, _, hl, _⟩ := c
    cases e1; rw [hp] at hl; cases hl
  | k kvs =>
    obtain ⟨q, es, ep, e1, _, hl, _⟩ := c
    cases e1; rw [hp] at hl; cases hl
theorem At.bNone (a : At b σ ρ H) (hp : H p = none) : b.B p = none := a.ext.none_of hp
theorem At.lockB {o : HO} (a : At b σ ρ H) (hp : H p = some o) (ht : ∀ ps, o ≠ .tbl ps) (hn : ∀ (j : Nat) (y : Cell), ρ[j]? = some (some y) → y.own → σ[j]? ≠ some (some (V.ref p))) : At (b.wB (upd b.B p o)) σ ρ H where
  ext := ⟨fun q u e n => by
      replace e : upd b.B p o q = some u := e
      by_cases hq : q = p
      · subst hq; rw [upd_same] at e; cases e; exact hp
      · rw [upd_ne hq] at e; exact a.ext.keep q u e n, fun q ps e => by
      replace e : upd b.B p o q = some (.tbl ps) := e
      by_cases hq : q = p
      · subst hq; rw [upd_same] at e; cases e; exact ⟨ps, hp⟩
      · rw [upd_ne hq] at e; exact a.ext.tbl q ps e, fun _ => a.tab⟩
  tab := a.tab
  pin := a.pin
  len := a.len
  cells := fun i y e => by
    obtain ⟨v, hv, c⟩ := a.cells i y e
    refine ⟨v, hv, ?_⟩
    cases y with
    | d x => exact c
    | l xs =>
      obtain ⟨q, vs, e1, hB, r⟩ := c
      subst e1
      refine ⟨q, vs, rfl, ?_, r⟩
      show upd b.B p o q = none
      rw [upd_ne (fun z => hn i _ e trivial (by rw [hv, z]))]
      exact hB
    | k kvs =>
      obtain ⟨q, es, ep, e1, hB, r⟩ := c
      subst e1
      refine ⟨q, es, ep, rfl, ?_, r⟩
      show upd b.B p o q = none
      rw [upd_ne (fun z => hn i _ e trivial (by rw [hv, z]))]
      exact hB
  apart := a.apart
theorem At.unlockB {o : HO} (a : At (b.wB (upd b.B p o)) σ ρ H) (hB : b.B p = none) : At b σ ρ H where
  ext := ⟨fun q u e n => a.ext.keep q u (by show upd b.B p o q = _; rw [upd_ne (ne_of_none e hB)]; exact e) n, fun q ps e => a.ext.tbl q ps (by show upd b.B p o q = _; rw [upd_ne (ne_of_none e hB)]; exact e), fun _ => a.tab⟩
  tab := a.tab
  pin := a.pin
  len := a.len
  cells := fun i y e => by
    obtain ⟨v, hv, c⟩ := a.cells i y e
    refine ⟨v, hv, ?_⟩
    have tr : ∀ q, upd b.B p o q = none → b.B q = none := fun q z => by
      by_cases hq : q = p
      · rw [hq]; exact hB
      · rw [upd_ne hq] at z; exact z
    cases y with
    | d x => exact c
    | l xs =>
      obtain ⟨q, vs, e1, h, r⟩ := c
      exact ⟨q, vs, e1, tr q h, r⟩
    | k kvs =>
      obtain ⟨q, es, ep, e1, h, r⟩ := c
      exact ⟨q, es, ep, e1, tr q h, r⟩
  apart := a.apart
theorem At.notLocked {o : HO} (a : At (b.wB (upd b.B p o)) σ ρ H) : ∀ (j : Nat) (y : Cell), ρ[j]? = some (some y) → y.own → σ[j]? ≠ some (some (V.ref p)) := fun j y e oy z => by
  obtain ⟨v, hv, c⟩ := a.cells j y e
  rw [hv] at z
  cases z
  cases y with
  | d x => exact oy
  | l xs =>
    obtain ⟨q, vs, e1, hB, _⟩ := c
    cases e1
    have h : upd b.B p o p = none := hB
    rw [upd_same] at h; cases h
  | k kvs =>
    obtain ⟨q, es, ep, e1, hB, _⟩ := c
    cases e1
    have h : upd b.B p o p = none := hB
    rw [upd_same] at h; cases h
/-- a thing that is neither the body's ground nor owned changes -/
theorem At.other {o u : HO} (a : At b σ ρ H) (hB : b.B p = none) (hp : H p = some u) (h1 : ∀ xs, u ≠ .tup xs) (h2 : ∀ c d, u ≠ .frz c d) (h3 : ∀ ps, u ≠ .tbl ps) (hn : ∀ (j : Nat) (y : Cell), ρ[j]? = some (some y) → y.own → σ[j]? ≠ some (some (V.ref p))) : At b σ ρ (upd H p o) where
  ext := ⟨fun c z e n => by rw [upd_ne (ne_of_none e hB)]; exact a.ext.keep c z e n, fun c ps e => by rw [upd_ne (ne_of_none e hB)]; exact a.ext.tbl c ps e, fun t q hq => by
    obtain ⟨ps, e, z⟩ := a.tab q hq
    exact ⟨ps, by rw [upd_ne (ne_of e hp (Ne.symm (h3 ps)))]; exact e, z⟩⟩
  tab := fun q hq => by
    obtain ⟨ps, e, z⟩ := a.tab q hq
    exact ⟨ps, by rw [upd_ne (ne_of e hp (Ne.symm (h3 ps)))]; exact e, z⟩
  pin := a.pin
  len := a.len
  cells := fun j z e => by
    obtain ⟨v, hv, c⟩ := a.cells j z e
    exact ⟨v, hv, c.mut hp h1 h2 fun oz q => hn j z e oz (by rw [hv, q])⟩
  apart := a.apart
theorem At.weak (a : At b σ ρ H) (hl : σ2.length = σ.length) (hw : ∀ (i : Nat) (v : V), σ[i]? = some (some v) → σ2[i]? = some (some v)) : At b σ2 ρ H where
  ext := a.ext
  tab := a.tab
  pin := fun v e => hw 0 v (a.pin v e)
  len := hl.trans a.len
  cells := fun i y e => let ⟨v, hv, c⟩ := a.cells i y e; ⟨v, hw i v hv, c⟩
  apart := fun i j x y v hij e1 e2 o1 o2 f1 f2 => by
    obtain ⟨v1, g1, _⟩ := a.cells i x e1
    obtain ⟨v2, g2, _⟩ := a.cells j y e2
    have q1 := hw i v1 g1
    have q2 := hw j v2 g2
    rw [f1] at q1; rw [f2] at q2
    cases q1; cases q2
    exact a.apart i j x y _ hij e1 e2 o1 o2 g1 g2
theorem wipe_get (σ : L2.St) : ∀ (vs : List Nat) (i : Nat), (wipe σ vs)[i]? = if i ∈ vs ∧ i < σ.length then some none else σ[i]?
  | [], i => by simp [wipe]
  | v :: vs, i => by
    unfold wipe
    by_cases h : v = i
    · subst h
      by_cases hl : v < σ.length
      · rw [List.getElem?_set_self (by rw [wipe_length]; exact hl), if_pos ⟨List.mem_cons_self, hl⟩]
      · rw [if_neg (fun z => hl z.2), List.getElem?_eq_none (by rw [List.length_set, wipe_length]; omega), List.getElem?_eq_none (by omega)]
    · rw [List.getElem?_set_ne h, wipe_get σ vs i]
      have : (i ∈ v :: vs ∧ i < σ.length) ↔ (i ∈ vs ∧ i < σ.length) := by
        rw [List.mem_cons]
        constructor
        · rintro ⟨z | z, q⟩
          · exact absurd z.symm h
          · exact ⟨z, q⟩
        · rintro ⟨z, q⟩
          exact ⟨.inr z, q⟩
      simp only [this]
theorem wipe_eq {vs l : List Nat} (hl : ∀ j ∈ l, j ∈ vs) (h1 : σ2.length = (wipe σ vs).length) (h2 : ∀ j, j ∉ l → σ2[j]? = (wipe σ vs)[j]?) : wipe σ2 vs = wipe σ vs := by
  apply List.ext_getElem?
  intro i
  rw [wipe_get]
  rw [wipe_length] at h1
  by_cases h : i ∈ vs ∧ i < σ2.length
  · rw [if_pos h, wipe_get, if_pos ⟨h.1, by omega⟩]
  · rw [if_neg h]
    by_cases hi : i ∈ vs
    · have hlt : ¬ i < σ2.length := fun z => h ⟨hi, z⟩
      rw [List.getElem?_eq_none (by omega), List.getElem?_eq_none (by rw [wipe_length]; omega)]
    · exact h2 i fun z => hi (hl i z)
end

/-! ### comprehensions -/
def cGo (t : Tg) (c : Act Bool) (f : Act D) (vs : List Nat) : List D → List D → Act (List D)
  | [], acc => fun ρ => .ok acc ρ
  | d :: ds, acc => fun ρ => match t d ρ with
    | none => .stuck
    | some ρ1 => match c ρ1 with
      | .ok true ρ2 => match f ρ2 with
        | .ok y ρ3 => if acc.length < 16000000 then cGo t c f vs ds (acc ++ [y]) (wipeD ρ3 vs) else .stuck
        | _ => .stuck
      | .ok false ρ2 => cGo t c f vs ds acc (wipeD ρ2 vs)
      | _ => .stuck
@[reducible] def aComp (vs : List Nat) (fi : Act (List D)) (t : Tg) (c : Act Bool) (f : Act D) : Act (List D) := fi.bind fun xs => fun ρ => cGo t c f vs xs [] (wipeD ρ vs)
@[reducible] def cYes : Act Bool := fun ρ => .ok true ρ
/-- a new list, frozen -/
@[reducible] def aLst (f : Act (List D)) : Act D := f.bind fun xs => fun ρ => .ok (.lst xs) ρ
section
variable {X : Cx} {b : BC} {x : XC} {e elt tg iter : Expr} {ifs es : List Expr} {pos p : Pos} {f : Act D} {fs fi : Act (List D)} {t : Tg} {cf : Act Bool} {l : List Nat} {scope : Scope} {own : List (Str × Nat)}
theorem pe_ex {ι : Type} {t : ι → TE} (h : ∀ i, PE X e (t i)) : PE X e (fun σ H Q => ∃ i, t i σ H Q) := ⟨fun pins s σ H Q I ⟨i, q⟩ => (h i).run pins s σ H Q I q⟩
theorem pts_ex {ι : Type} {t : ι → TT} (h : ∀ i, PTs X ifs (t i)) : PTs X ifs (fun σ H Q => ∃ i, t i σ H Q) := ⟨fun pins s σ H Q I ⟨i, q⟩ => (h i).run pins s σ H Q I q⟩
theorem pg_ex {ι : Type} {t : ι → TG} (h : ∀ i, PG X e (t i)) : PG X e (fun v σ H Q => ∃ i, t i v σ H Q) := ⟨fun pins s σ H v u Q I r ⟨i, q⟩ => (h i).run pins s σ H v u Q I r q⟩
theorem ts_nil : PTs X [] (tT b x cYes) := ⟨fun pins s σ H Q I ⟨ρ, a, q⟩ => pts_nil.run pins s σ H Q I (show tYes σ H Q from q H a (Keep.refl H))⟩
theorem ts_one (h : PT X e (tT b x cf)) : PTs X [e] (tT b x cf) := pts_one h
theorem wD_step {α : Type} {σ : L2.St} {ρ : DEnv} {H : Hp} {k : List D → Act α} {Q : α → DEnv → Prop} {R : It → Hp → Prop} (a : At b σ ρ H) (h : Go b x σ H (fi.bind k ρ) Q)
    (hk : ∀ xs ρ1 J H1, At b σ ρ1 H1 → Keep H H1 → WalkD b J xs H1 → Go b x σ H (k xs ρ1) Q → R J H1) : wD b x fi σ H R :=
  ⟨ρ, a, h.bind.imp fun xs ρ1 h1 J H1 a1 k1 w => hk xs ρ1 J H1 a1 k1 w h1⟩
theorem lc_reads {σ : L2.St} {H : Hp} {Q : VK} {vs : List Nat} (hl : ∀ j ∈ l, j ∈ vs) (hp : b.pin = none ∨ 0 ∉ vs) (h : tF b x (aComp vs fi t cf f) σ H Q) :
    tLc (wD b x fi) (fun v σ H Q => ∃ B', gD (b.wB B') t l v σ H Q) (fun σ H Q => ∃ B', tT (b.wB B') .no cf σ H Q) (fun σ H Q => ∃ B', tD (b.wB B') .no f σ H Q) vs σ H Q := by
  obtain ⟨ρ, a, q⟩ := h
  refine wD_step a q fun xs ρ1 J H1 a1 k1 ⟨G, Y, w, g0, gk, hy⟩ q1 => fun Dl hD => ?_
  have hB : b.B Dl = none := a1.bNone hD
  have up1 : Up b.tb H1 (upd H1 Dl (.lst [])) := Up.new hD
  refine ⟨fun i m H' => m = xs.length - i ∧ i ≤ xs.length ∧ ∃ ρi acc vacc, H' Dl = some (.lst vacc) ∧ b.ImL H' vacc acc ∧ At b (wipe σ vs) ρi H' ∧ G H' ∧ Keep H H' ∧
    (∀ (j : Nat) (y : Cell), ρi[j]? = some (some y) → y.own → (wipe σ vs)[j]? ≠ some (some (V.ref Dl))) ∧
    Go b x σ H (cGo t cf f vs (xs.drop i) acc ρi) (fun ds ρ' => ∀ p ws H', At b σ ρ' H' → Keep H H' → b.B p = none → (∀ (j : Nat) (y : Cell), ρ'[j]? = some (some y) → y.own → σ[j]? ≠ some (some (V.ref p))) → H' p = some (.lst ws) → b.ImL H' ws ds → Q (.ref p) H'),
    ⟨xs.length, rfl, Nat.zero_le _, wipeD ρ1 vs, [], [], upd_same, .nil, (a1.up up1).wipe hp, gk _ _ g0 up1.toKeep, k1.trans up1.toKeep, ?_, q1⟩, ?_⟩
  · exact (a1.wipe hp).notNew hD
  · rintro i m H' ⟨rfl, hi, ρi, acc, vacc, hDl, im, ai, gi, ki, hn, qi⟩
    by_cases hlt : i < xs.length
    · refine .inr ⟨w.goes i H' hlt gi, fun H2 => ∃ ρ2 acc2 vacc2, H2 Dl = some (.lst vacc2) ∧ b.ImL H2 vacc2 acc2 ∧ At b (wipe σ vs) ρ2 H2 ∧ G H2 ∧ Keep H H2 ∧
        (∀ (j : Nat) (y : Cell), ρ2[j]? = some (some y) → y.own → (wipe σ vs)[j]? ≠ some (some (V.ref Dl))) ∧
        Go b x σ H (cGo t cf f vs (xs.drop (i + 1)) acc2 ρ2) (fun ds ρ' => ∀ p ws H', At b σ ρ' H' → Keep H H' → b.B p = none → (∀ (j : Nat) (y : Cell), ρ'[j]? = some (some y) → y.own → σ[j]? ≠ some (some (V.ref p))) → H' p = some (.lst ws) → b.ImL H' ws ds → Q (.ref p) H'),
        fun H2 z => ⟨xs.length - (i + 1), by omega, rfl, hlt, z⟩, fun v H2 y => ?_⟩
      obtain ⟨u, d, hd, iv⟩ := hy i H' v H2 hlt gi (w.yields i H' v H2 hlt gi y)
      have ed : xs.drop i = d :: xs.drop (i + 1) := by
        rw [List.drop_eq_getElem_cons hlt]
        have := (List.getElem?_eq_some_iff.mp hd).2
        rw [this]
      rw [ed] at qi
      unfold cGo at qi
      have hDl2 : H2 Dl = some (.lst vacc) := u.keep _ _ hDl (fun _ z => by cases z)
      have a2 : At b (wipe σ vs) ρi H2 := ai.up u
      have b2 : At (b.wB (upd b.B Dl (.lst vacc))) (wipe σ vs) ρi H2 := a2.lockB hDl2 (fun _ z => by cases z) hn
      have g2 : G H2 := gk _ _ gi u.toKeep
      have im2 := ImL.keep u.toKeep im
      have k2 := ki.trans u.toKeep
      -- the end of a turn
      have fin : ∀ {σ3 : L2.St} {ρ3 : DEnv} {H3 : Hp}, At (b.wB (upd b.B Dl (.lst vacc))) σ3 ρ3 H3 → Keep H2 H3 → wipe σ3 vs = wipe σ vs → H3 Dl = some (.lst vacc) ∧ At b (wipe σ vs) (wipeD ρ3 vs) H3 ∧ (∀ (j : Nat) (y : Cell), (wipeD ρ3 vs)[j]? = some (some y) → y.own → (wipe σ vs)[j]? ≠ some (some (V.ref Dl))) := fun {σ3 ρ3 H3} a3 k3 ew => by
        refine ⟨a3.ext.keep Dl _ upd_same (fun _ z => by cases z), ?_, ?_⟩
        · rw [← ew]; exact (a3.unlockB hB).wipe hp
        · rw [← ew]; exact (At.wipe a3 hp).notLocked
      cases e1 : t d ρi with
      | none => rw [e1] at qi; exact qi.elim
      | some ρ2 =>
        simp only [e1] at qi
        refine ⟨upd b.B Dl (.lst vacc), ρi, d, ρ2, b2, iv, e1, fun σ2 a3 l3 s3 => ?_⟩
        have ew : wipe σ2 vs = wipe σ vs := wipe_eq hl l3 s3
        refine ⟨ew, upd b.B Dl (.lst vacc), ρ2, a3, ?_⟩
        cases e2 : cf ρ2 with
        | ok c ρ3 =>
          simp only [e2] at qi
          intro H3 a4 k4
          cases c with
          | false =>
            obtain ⟨z1, z2, z3⟩ := fin a4 k4 ew
            exact ⟨_, acc, vacc, z1, ImL.keep k4 im2, z2, gk _ _ g2 k4, k2.trans k4, z3, qi⟩
          | true =>
            simp only at qi
            refine ⟨upd b.B Dl (.lst vacc), ρ3, a4, ?_⟩
            cases e3 : f ρ3 with
            | ok y ρ4 =>
              simp only [e3] at qi
              split at qi
              · rename_i hlen
                intro v2 H4 a5 k5 i5
                obtain ⟨z1, z2, z3⟩ := fin a5 (k4.trans k5) ew
                refine ⟨vacc, z1, by rw [ImL.length im]; exact Nat.lt_of_lt_of_le hlen (size_line (Nat.le_refl _)), ?_⟩
                have km : Keep H4 (upd H4 Dl (.lst (vacc ++ [v2]))) := Keep.mut z1 (fun _ z => by cases z) (fun _ _ z => by cases z)
                refine ⟨_, acc ++ [y], vacc ++ [v2], upd_same, (ImL.keep km (ImL.keep (k4.trans k5) im2)).append (.cons (Im.keep km i5) .nil), z2.other hB z1 (fun _ z => by cases z) (fun _ _ z => by cases z) (fun _ z => by cases z) z3, gk _ _ (gk _ _ g2 (k4.trans k5)) km, (k2.trans (k4.trans k5)).trans km, z3, qi⟩
              · exact qi.elim
            | exc e' ρ4 => simp only [e3] at qi; exact qi.elim
            | stuck => simp only [e3] at qi; exact qi.elim
        | exc e' ρ3 => simp only [e2] at qi; exact qi.elim
        | stuck => simp only [e2] at qi; exact qi.elim
    · have ei : i = xs.length := by omega
      subst ei
      rw [List.drop_eq_nil_of_le (Nat.le_refl _)] at qi
      refine .inl ⟨w.stops H' gi, qi Dl vacc H' (ai.weak (wipe_length σ vs).symm fun j v e => (wipe_some e).1) ki hB (fun j y e o z => ?_) hDl im⟩
      obtain ⟨v, hv, _⟩ := ai.cells j y e
      have := (wipe_some hv).1
      rw [z] at this; cases this
      exact hn j y e o hv
theorem px_lc (hc : X.calm = true) (hN : X.N.Nodup) (hi : PI X tg iter (wD b x fi)) (ok : BlkOk X.N X.env.scope scope own)
    (hg : ∀ (B' : Hp) (s : Shared) (H : Hp) (C : Addr) (cl : List (Str × Addr)) (fp : List Addr), PG (X.blk s H scope (compEnvC scope cl C X.env) fp) tg (gD (b.wB B') t l))
    (ht : ∀ (B' : Hp) (s : Shared) (H : Hp) (C : Addr) (cl : List (Str × Addr)) (fp : List Addr), PTs (X.blk s H scope (compEnvC scope cl C X.env) fp) ifs (tT (b.wB B') .no cf))
    (he : ∀ (B' : Hp) (s : Shared) (H : Hp) (C : Addr) (cl : List (Str × Addr)) (fp : List Addr), PE (X.blk s H scope (compEnvC scope cl C X.env) fp) elt (tD (b.wB B') .no f))
    (hl : ∀ j ∈ l, j ∈ own.map (·.2)) (hp : b.pin = none ∨ 0 ∉ own.map (·.2)) (hs : ∀ x, foldedSetIterable iter X.env x = pure x := by intro _; rfl) :
    PE X (.ListComp elt [⟨tg, iter, ifs, 0⟩] scope pos) (tF b x (aComp (own.map (·.2)) fi t cf f)) :=
  (pe_lc hc hN hi ok (fun s H C cl fp => pg_ex fun B' => hg B' s H C cl fp) (fun s H C cl fp => pts_ex fun B' => ht B' s H C cl fp) (fun s H C cl fp => pe_ex fun B' => he B' s H C cl fp) hs).mono fun σ H Q h => lc_reads hl hp h
theorem px_ofF (h : PE X e (tF b x fs)) : PE X e (tD b x (aLst fs)) := (pe_frz h).mono fun σ H Q ⟨ρ, a, q⟩ => by
  refine ⟨ρ, a, q.bind.imp fun xs ρ1 h1 p vs H1 a1 k1 hB hn hp i1 => ?_⟩
  refine .inr ⟨p, _, rfl, hp, trivial, (fun _ _ _ z => by cases z), fun o => ?_⟩
  have km : Keep H1 (upd H1 p (.frz o (.lst vs))) := Keep.mut hp (fun _ z => by cases z) (fun _ _ z => by cases z)
  exact h1 _ _ (a1.other hB hp (fun _ z => by cases z) (fun _ _ z => by cases z) (fun _ z => by cases z) hn) (k1.trans km) (.lst ⟨o, upd_same⟩ (ImL.keep km i1))
/-- name = [..] on one line, the name a plain local: frozen -/
theorem s_setLc {i : Nat} {y : Str} {py spos : Pos} (hpi : b.pin = none ∨ i ≠ 0) (hc : X.calm = true) (hN : X.N.Nodup) (hy : X.N[i]? = some y) (hyl : X.env.scope.names.lookup y = some .local)
    (hsw : swapsWith (.ListComp elt [⟨tg, iter, ifs, 0⟩] scope pos) (some (.Name y py)) spos.line X.env = pure true) (hi : PI X tg iter (wD b x fi)) (ok : BlkOk X.N X.env.scope scope own)
    (hg : ∀ (B' : Hp) (s : Shared) (H : Hp) (C : Addr) (cl : List (Str × Addr)) (fp : List Addr), PG (X.blk s H scope (compEnvC scope cl C X.env) fp) tg (gD (b.wB B') t l))
    (ht : ∀ (B' : Hp) (s : Shared) (H : Hp) (C : Addr) (cl : List (Str × Addr)) (fp : List Addr), PTs (X.blk s H scope (compEnvC scope cl C X.env) fp) ifs (tT (b.wB B') .no cf))
    (he : ∀ (B' : Hp) (s : Shared) (H : Hp) (C : Addr) (cl : List (Str × Addr)) (fp : List Addr), PE (X.blk s H scope (compEnvC scope cl C X.env) fp) elt (tD (b.wB B') .no f))
    (hl : ∀ j ∈ l, j ∈ own.map (·.2)) (hp : b.pin = none ∨ 0 ∉ own.map (·.2)) (hs : ∀ x, foldedSetIterable iter X.env x = pure x := by intro _; rfl) :
    PS X (.Assign [.Name y py] (.ListComp elt [⟨tg, iter, ifs, 0⟩] scope pos) spos) (tS b x (gSet i (aLst (aComp (own.map (·.2)) fi t cf f)))) := by
  have base := ps_setLc hc hN hy hyl hsw hi ok (fun s H C cl fp => pg_ex fun B' => hg B' s H C cl fp) (fun s H C cl fp => pts_ex fun B' => ht B' s H C cl fp) (fun s H C cl fp => pe_ex fun B' => he B' s H C cl fp) hs
  refine ⟨fun pins s σ H E I h => ?_⟩
  obtain ⟨ρ, a, q⟩ := h
  have h2 : GoS b x H (gOf (aComp (own.map (·.2)) fi t cf f) (fun xs ρ => .nx (ρ.set i (some (.d (.lst xs))))) ρ) E := by
    have e : gSet i (aLst (aComp (own.map (·.2)) fi t cf f)) ρ = gOf (aComp (own.map (·.2)) fi t cf f) (fun xs ρ => .nx (ρ.set i (some (.d (.lst xs))))) ρ := by
      show gOf (aLst _) _ ρ = _
      unfold gOf aLst
      generalize aComp (own.map (·.2)) fi t cf f = g
      unfold Act.bind
      cases g ρ with
      | ok a ρ1 => rfl
      | exc e ρ1 => rfl
      | stuck => rfl
    rw [e] at q
    exact q
  -- the list is stored, then frozen
  refine thn (base.run pins s σ H { E with nx := fun σ' H' => ∃ p vs, H' p = some (.lst vs) ∧ ∀ o, E.nx σ' (upd H' p (.frz o (.lst vs))) } I
    (lc_reads (Q := fun v H1 => ∃ p vs, H1 p = some (.lst vs) ∧ ∀ o, E.nx (σ.set i (some v)) (upd H1 p (.frz o (.lst vs)))) hl hp (tF_S a h2 fun ds ρ1 p vs H1 a1 k1 hB hn hp i1 q1 => ⟨p, vs, hp, fun o => ?_⟩))) fun fl s1 hq => ?_
  · have km : Keep H1 (upd H1 p (.frz o (.lst vs))) := Keep.mut hp (fun _ z => by cases z) (fun _ _ z => by cases z)
    exact q1 _ _ ((a1.other hB hp (fun _ z => by cases z) (fun _ _ z => by cases z) (fun _ z => by cases z) hn).set hpi (.lst ⟨o, upd_same⟩ (ImL.keep km i1))) (k1.trans km)
  · cases fl with
    | next =>
      obtain ⟨σ', H', I', p, vs, hpp, qq⟩ := hq
      obtain ⟨o, I2⟩ := I'.freeze hpp trivial (fun _ _ _ z => by cases z)
      exact ⟨σ', _, I2, qq o⟩
    | ret v => exact hq
    | brk => exact hq
    | cont => exact hq
end
end DL
end
section
set_option Elab.async false
set_option linter.all false
set_option maxRecDepth 100000
set_option maxHeartbeats 2000000
namespace DL
open PySem PySem.Spec PyProof.Rows L2

/-! ### defs -/
def Cell.isOwn : Cell → Bool
  | .d _ => false
  | _ => true
theorem Cell.isOwn_iff {c : Cell} : c.isOwn = true ↔ c.own := by cases c <;> simp [Cell.isOwn, Cell.own]
/-- the address of the owned first argument -/
def ownA : List V → List Cell → Option Addr
  | .ref a :: _, c :: _ => if c.isOwn = true then some a else none
  | _, _ => none
def hide (o : Option Addr) (H : Hp) : Hp := fun a => if o = some a then none else H a
theorem hide_none (H : Hp) : hide none H = H := rfl
theorem hide_self {a : Addr} {H : Hp} : hide (some a) H a = none := by unfold hide; rw [if_pos rfl]
theorem hide_ne {a c : Addr} {H : Hp} (h : c ≠ a) : hide (some a) H c = H c := by unfold hide; rw [if_neg (fun z => h (Option.some.inj z).symm)]
/-- the ground of a call -/
def bcOf (P : Program) (w : World) (K : PySem.W.Frag) (mg : Str → Option Value) (tb : List Addr) (vs : List V) (cs : List Cell) (H : Hp) : BC :=
  ⟨P, w, K, mg, hide (ownA vs cs) H, tb, (ownA vs cs).map .ref⟩
structure Post (b : BC) (vs : List V) (cs : List Cell) (ρ : DEnv) (H H' : Hp) : Prop where
  up : Up b.tb b.B H'
  keep : Keep H H'
  tab : ∀ p ∈ b.tb, GxR.TabG H' p
  own : ∀ a c, ownA vs cs = some a → ρ[0]? = some (some c) → CellAt b H' (.ref a) c
/-- a def's promise by data: what it gives, its owned argument behind it -/
def spF (P : Program) (w : World) (K : PySem.W.Frag) (mg : Str → Option Value) (tb : List Addr) (n : Nat) (only : Bool) (F : List Cell → RS D) : Sp := fun vs H Q E => ∃ cs : List Cell, vs.length = n ∧ (only = true → ∀ c ∈ cs, ¬ c.own) ∧
  (∀ (i : Nat) c, cs[i]? = some c → c.own → i = 0) ∧ At (bcOf P w K mg tb vs cs H) (vs.map some) (cs.map some) H ∧
  match F cs with
  | .ok d ρ => ∀ v H', Post (bcOf P w K mg tb vs cs H) vs cs ρ H H' → (bcOf P w K mg tb vs cs H).Im H' v d → Q v H'
  | .exc e ρ => ∀ cls dx H', Post (bcOf P w K mg tb vs cs H) vs cs ρ H H' → XcAt (bcOf P w K mg tb vs cs H) H' cls dx e → E cls dx H'
  | .stuck => False
/-- what a body's reading is worth -/
def fnF (n : Nat) (g : GS) (cs : List Cell) : RS D := match g (cs.map some ++ List.replicate (n - cs.length) none) with
  | .rt d ρ => .ok d ρ
  | .nx ρ => .ok .non ρ
  | .exc e ρ => .exc e ρ
  | _ => .stuck
section
variable {P : Program} {w : World} {K : PySem.W.Frag} {mg : Str → Option Value} {base : Heap} {tb : List Addr}
theorem at_more {b : BC} {σ : L2.St} {ρ : DEnv} {H : Hp} (a : At b σ ρ H) (n : Nat) : At b (σ ++ List.replicate n none) (ρ ++ List.replicate n none) H where
  ext := a.ext
  tab := a.tab
  pin := fun v e => by
    have h := a.pin v e
    rw [List.getElem?_append_left (List.getElem?_eq_some_iff.mp h).1]
    exact h
  len := by rw [List.length_append, List.length_append, a.len, List.length_replicate, List.length_replicate]
  cells := fun i y e => by
    by_cases hi : i < ρ.length
    · rw [List.getElem?_append_left hi] at e
      obtain ⟨v, hv, c⟩ := a.cells i y e
      exact ⟨v, by rw [List.getElem?_append_left (by rw [a.len]; exact hi)]; exact hv, c⟩
    · rw [List.getElem?_append_right (by omega), List.getElem?_replicate] at e
      split at e <;> cases e
  apart := fun i j x y v hij e1 e2 o1 o2 f1 f2 => by
    have sp : ∀ {k : Nat} {z : Cell}, (ρ ++ List.replicate n none)[k]? = some (some z) → k < ρ.length ∧ ρ[k]? = some (some z) := fun {k z} e => by
      by_cases hk : k < ρ.length
      · rw [List.getElem?_append_left hk] at e; exact ⟨hk, e⟩
      · rw [List.getElem?_append_right (by omega), List.getElem?_replicate] at e
        split at e <;> cases e
    obtain ⟨l1, e1⟩ := sp e1
    obtain ⟨l2, e2⟩ := sp e2
    rw [List.getElem?_append_left (by rw [a.len]; exact l1)] at f1
    rw [List.getElem?_append_left (by rw [a.len]; exact l2)] at f2
    exact a.apart i j x y v hij e1 e2 o1 o2 f1 f2
theorem Post.of {b : BC} {vs : List V} {cs : List Cell} {σ : L2.St} {ρ : DEnv} {H H' : Hp} (hp : b.pin = (ownA vs cs).map .ref) (a : At b σ ρ H') (k : Keep H H') : Post b vs cs ρ H H' :=
  ⟨a.ext, k, a.tab, fun q c e h => by
    rw [e] at hp
    have z := a.pin (.ref q) hp
    obtain ⟨v, hv, cc⟩ := a.cells 0 c h
    rw [z] at hv; cases hv
    exact cc⟩
/-- THE RULE for a def: the reading of its body, whatever ground it is called on -/
theorem fn_d {x qual : Str} {st : Stmt} {f : Addr} {fd : FuncData} {N ps : List Str} {k : Nat} {g : GS} (F : Fun K x qual st f fd) (S : FnScope N ps (defScope st)) (only : Bool)
    (hb : ∀ (cdv : Value) (A : Around) (outer : List Env) (s : Shared) (H : Hp) (E : XK) (B : Hp) (pin : Option V) (xc : XC), Room k (A.deeper (envOfC qual (defScope st) s.heap.objs.size f cdv)) → (only = true → pin = none) →
      Takes (cxOf (L2.CX P w) P w K mg base N qual (defScope st) f cdv A outer s H E) xc.W → PSs (cxOf (L2.CX P w) P w K mg base N qual (defScope st) f cdv A outer s H E) (defBody st) (tS ⟨P, w, K, mg, B, tb, pin⟩ xc g)) :
    FnOk P w K mg base (L2.CX P w) (k + 1) f fd ps (spF P w K mg tb ps.length only (fnF N.length g)) := by
  refine F.okX S (fun vs H Q E h => ?_) (fun cdv A outer s H vs Q E hr h => ?_)
  · obtain ⟨cs, e, _⟩ := h
    exact e
  · obtain ⟨cs, hl, ho, h0, a, q⟩ := h
    have hcl : vs.length = cs.length := by
      have := a.len
      simpa using this
    refine ⟨_, hb cdv A outer s H E (hide (ownA vs cs) H) ((ownA vs cs).map .ref) ⟨fun cls d _ H => E cls d H, True⟩ hr (fun o => ?_) (takes_of rfl rfl rfl rfl), ?_⟩
    · show (ownA vs cs).map V.ref = none
      have : ownA vs cs = none := by
        unfold ownA
        split
        · rename_i a0 r c cr
          rw [if_neg]
          intro z
          exact ho o c (by simp) (Cell.isOwn_iff.mp z)
        · rfl
      rw [this]; rfl
    · refine ⟨cs.map some ++ List.replicate (N.length - cs.length) none, ?_, ?_⟩
      · have := at_more a (N.length - cs.length)
        unfold L2.start
        rw [hcl]
        exact this
      · unfold fnF at q
        cases e : g (cs.map some ++ List.replicate (N.length - cs.length) none) with
        | rt d ρ => simp only [e] at q; exact fun v σ' H' a' k' i' => q v H' (Post.of rfl a' k') i'
        | nx ρ => simp only [e] at q; exact fun σ' H' a' k' => q .non H' (Post.of rfl a' k') .non
        | exc e' ρ => simp only [e] at q; exact ⟨trivial, fun cls dx σ' H' a' k' z => q cls dx H' (Post.of rfl a' k') z⟩
        | bk ρ => simp only [e] at q
        | ct ρ => simp only [e] at q
        | stuck => simp only [e] at q
/-- a def that may be called by its name: its level, how many arguments it takes, what it is worth -/
structure Cal (P : Program) (w : World) (K : PySem.W.Frag) (mg : Str → Option Value) (base : Heap) (tb : List Addr) (k : Nat) (x : Str) (n : Nat) (only : Bool) (F : List Cell → RS D) : Prop where
  ex : ∃ (f : Addr) (fd : FuncData) (ps : List Str), FnOk P w K mg base (L2.CX P w) k f fd ps (spF P w K mg tb n only F) ∧ mg x = some (.ref f) ∧ PySem.W.keepIn K (.ref f) = true ∧ Binds K fd ps []
end
@[reducible] def aCall (n : Nat) (F : List Cell → RS D) (fs : Act (List D)) : Act D := fs.bind fun ds ρ => if ds.length = n then match F (ds.map .d) with
  | .ok d _ => .ok d ρ
  | .exc e _ => .exc e ρ
  | .stuck => .stuck
  else .stuck
@[reducible] def aCallO (n : Nat) (F : List Cell → RS D) (i : Nat) (fs : Act (List D)) : Act D := fun ρ0 => match ρ0[i]? with
  | some (some (.l _)) => (fs.bind fun ds ρ => match ρ[i]? with
    | some (some (.l xs)) => if ds.length + 1 = n then match (F (Cell.l xs :: ds.map Cell.d) : RS D) with
      | .ok d ρ' => match (ρ'[0]? : Option (Option Cell)) with
        | some (some (.l ys)) => .ok d (ρ.set i (some (.l ys)))
        | _ => .stuck
      | .exc e ρ' => match (ρ'[0]? : Option (Option Cell)) with
        | some (some (.l ys)) => .exc e (ρ.set i (some (.l ys)))
        | _ => .stuck
      | .stuck => .stuck
      else .stuck
    | _ => .stuck) ρ0
  | _ => .stuck
theorem imL_at {b b' : BC} {σ : L2.St} {ρ : DEnv} {H : Hp} {vs : List V} {ds : List D} (a : At b σ ρ H) (i : b.ImL H vs ds) (e1 : b'.P = b.P) (e2 : b'.w = b.w) (e3 : b'.K = b.K) (e4 : b'.tb = b.tb) (e5 : b'.B = H) (e6 : b'.pin = none) : At b' (vs.map some) ((ds.map Cell.d).map some) H where
  ext := by rw [e5, e4]; exact Up.refl _ _
  tab := by rw [e4]; exact a.tab
  pin := fun v z => by rw [e6] at z; cases z
  len := by simp [ImL.length i]
  cells := fun j y e => by
    rw [List.map_map, List.getElem?_map] at e
    cases hd : ds[j]? with
    | none => rw [hd] at e; cases e
    | some d =>
      rw [hd] at e
      cases e
      obtain ⟨v, hv, iv⟩ := ImL.get' i hd
      refine ⟨v, by rw [List.getElem?_map, hv]; rfl, ?_⟩
      show DL.Im b'.P b'.w b'.K H v d
      rw [e1, e2, e3]
      exact iv
  apart := fun i j x y v hij f1 f2 o1 => by
    rw [List.map_map, List.getElem?_map] at f1
    cases hd : ds[i]? with
    | none => rw [hd] at f1; cases f1
    | some d => rw [hd] at f1; cases f1; exact o1.elim
section
variable {X : Cx} {b : BC} {x : XC} {e : Expr} {es : List Expr} {p pos : Pos} {n : Str} {k m : Nat} {only : Bool} {F : List Cell → RS D} {fs : Act (List D)}
/-- f(e, ..), all arguments data -/
theorem px_call (C : Cal X.prog X.w X.K X.mg X.base b.tb k n m only F) (hr : Room k X.A) (hP : X.prog = b.P) (hw : X.w = b.w) (hK : X.K = b.K) (hmg : X.mg = b.mg) (hg : Gl X n) (tk : Takes X x.W)
    (ha : PA X (e :: es) (tL b x fs)) (hdb : (n == ("__debug__" : Str)) = false := by decide) (he : starEach (e :: es) X.env = (false, eval e X.env) :: starEach es X.env := by rfl) (hpl : (backTo pos (starEach es X.env)).any (·.1) = false := by rfl) :
    PE X (.Call (.Name n p) (e :: es) [] pos) (tD b x (aCall m F fs)) := by
  obtain ⟨f, fd, ps, Fn, hm, hk, hb⟩ := C.ex
  refine (pe_callS Fn hr hg hm hk hb (fun σ => passAt tk σ) ha hdb he hpl).mono fun σ H Q ⟨ρ, a, q⟩ => tL_step (Keep.refl H) a q fun ds ρ1 vs H1 a1 k1 i1 q1 => ?_
  rw [hP, hw, hK, hmg]
  have no : ownA vs (ds.map Cell.d) = none := by
    unfold ownA
    split
    · rename_i a0 r c cr h
      cases ds with
      | nil => cases h
      | cons d ds => cases h; rfl
    · rfl
  have ab : At (bcOf b.P b.w b.K b.mg b.tb vs (ds.map Cell.d) H1) (vs.map some) ((ds.map Cell.d).map some) H1 :=
    imL_at a1 i1 rfl rfl rfl rfl (by show hide _ H1 = H1; rw [no]; rfl) (by show (ownA vs _).map V.ref = none; rw [no]; rfl)
  have up : ∀ {ρ' : DEnv} {H' : Hp}, Post (bcOf b.P b.w b.K b.mg b.tb vs (ds.map Cell.d) H1) vs (ds.map Cell.d) ρ' H1 H' → Up b.tb H1 H' := fun {ρ' H'} z => by
    have u := z.up
    have e : (bcOf b.P b.w b.K b.mg b.tb vs (ds.map Cell.d) H1).B = H1 := by show hide _ H1 = H1; rw [no]; rfl
    rw [e] at u
    exact u
  split at q1
  · rename_i hlen
    refine ⟨ds.map Cell.d, by rw [ImL.length i1]; exact hlen, fun _ c hc => ?_, fun i c hc ho => ?_, ab, ?_⟩
    · obtain ⟨d, _, rfl⟩ := List.mem_map.mp hc
      exact fun z => z
    · rw [List.getElem?_map] at hc
      cases hd : ds[i]? with
      | none => rw [hd] at hc; cases hc
      | some d => rw [hd] at hc; cases hc; exact ho.elim
    · cases eF : F (ds.map Cell.d) with
      | ok d ρ' =>
        rw [eF] at q1
        exact fun v H' pt i' => q1 v H' (a1.up (up pt)) (k1.trans pt.keep) i'
      | exc e' ρ' =>
        rw [eF] at q1
        exact fun cls dx H' pt z => q1.2 cls dx H' (a1.up (up pt)) (k1.trans pt.keep) z
      | stuck => rw [eF] at q1; exact q1.elim
  · exact q1.elim
/-- behind a call that had the thing at a -/
theorem At.called {σ : L2.St} {ρ : DEnv} {H H' : Hp} {a : Addr} {i : Nat} {y z : Cell} (h : At b σ ρ H) (hi : ρ[i]? = some (some z)) (oz : z.own) (hs : σ[i]? = some (some (.ref a))) (hB : b.B a = none) (u : Up b.tb (hide (some a) H) H') (kp : Keep H H') (tb : ∀ p ∈ b.tb, GxR.TabG H' p) (oy : y.own) (hy : CellAt b H' (.ref a) y) : At b σ (ρ.set i (some y)) H' where
  ext := ⟨fun c o e n => u.keep c o (by rw [hide_ne (ne_of_none e hB)]; exact h.ext.keep c o e n) n, fun c ps e => by
    obtain ⟨ps', e'⟩ := h.ext.tbl c ps e
    exact u.tbl c ps' (by rw [hide_ne (ne_of_none e hB)]; exact e'), fun _ => tb⟩
  tab := tb
  pin := h.pin
  len := by rw [List.length_set]; exact h.len
  cells := fun j t e => by
    by_cases hj : i = j
    · subst hj
      have hl : i < ρ.length := by
        have := (List.getElem?_eq_some_iff.mp e).1
        rwa [List.length_set] at this
      rw [List.getElem?_set_self hl] at e
      cases e
      exact ⟨_, hs, hy⟩
    · rw [List.getElem?_set_ne hj] at e
      obtain ⟨v, hv, c⟩ := h.cells j t e
      refine ⟨v, hv, ?_⟩
      have na : t.own → v ≠ .ref a := fun ot ev => h.apart i j z t (.ref a) hj hi e oz ot hs (by rw [hv, ev])
      cases t with
      | d d => exact Im.keep kp c
      | l xs =>
        obtain ⟨q, vs, e1, n, hl, r⟩ := c
        exact ⟨q, vs, e1, n, u.keep q _ (by rw [hide_ne (fun z => na trivial (by rw [e1, z]))]; exact hl) (fun _ z => by cases z), ImL.keep kp r⟩
      | k kvs =>
        obtain ⟨q, es, ep, e1, n, hl, s, d, r⟩ := c
        exact ⟨q, es, ep, e1, n, u.keep q _ (by rw [hide_ne (fun z => na trivial (by rw [e1, z]))]; exact hl) (fun _ z => by cases z), s, d, ImE.keep kp r⟩
  apart := fun j k y' t v hjk e1 e2 o1 o2 f1 f2 => by
    have tr : ∀ {m : Nat} {c : Cell}, (ρ.set i (some y))[m]? = some (some c) → c.own → ∃ c', ρ[m]? = some (some c') ∧ c'.own := fun {m c} e oc => by
      by_cases hm : i = m
      · subst hm; exact ⟨z, hi, oz⟩
      · rw [List.getElem?_set_ne hm] at e; exact ⟨c, e, oc⟩
    obtain ⟨c1, g1, k1⟩ := tr e1 o1
    obtain ⟨c2, g2, k2⟩ := tr e2 o2
    exact h.apart j k c1 c2 v hjk g1 g2 k1 k2 f1 f2
/-- f(x, e, ..), x an owned list -/
theorem px_callO (i : Nat) {e0 : Expr} (C : Cal X.prog X.w X.K X.mg X.base b.tb k n m false F) (hr : Room k X.A) (hP : X.prog = b.P) (hw : X.w = b.w) (hK : X.K = b.K) (hmg : X.mg = b.mg) (hg : Gl X n) (tk : Takes X x.W)
    (h0 : PE X e0 (tVar i)) (ha : PA X es (tL b x fs)) (hs : starEach (e0 :: es) X.env = (false, eval e0 X.env) :: starEach es X.env := by rfl) (hdb : (n == ("__debug__" : Str)) = false := by decide) (hpl : (backTo pos (starEach es X.env)).any (·.1) = false := by rfl) :
    PE X (.Call (.Name n p) (e0 :: es) [] pos) (tD b x (aCallO m F i fs)) := by
  obtain ⟨f, fd, ps, Fn, hm, hk, hb⟩ := C.ex
  refine (pe_callS Fn hr hg hm hk hb (fun σ => passAt tk σ) (pa_cons h0 ha hs) hdb hs hpl).mono fun σ H Q ⟨ρ, a, q⟩ => ?_
  -- the list's place is read ahead of the arguments
  unfold aCallO at q
  split at q
  · rename_i xs0 hx0
    obtain ⟨v0, hq0, q0, ws0, rfl, _⟩ := a.cells i _ hx0
    refine ⟨.ref q0, hq0, ?_⟩
    refine tL_step (Keep.refl H) a q fun ds ρ1 vs H1 a1 k1 i1 q1 => ?_
    rw [hP, hw, hK, hmg]
    split at q1
    · rename_i xs hxs
      obtain ⟨v, hv, c⟩ := a1.cells i _ hxs
      rw [hq0] at hv; cases hv
      obtain ⟨q', ws, e1, hB, hl, im⟩ := c
      cases e1
      have ho : ownA (.ref q0 :: vs) (Cell.l xs :: ds.map Cell.d) = some q0 := rfl
      split at q1
      · rename_i hlen
        refine ⟨Cell.l xs :: ds.map Cell.d, by rw [List.length_cons, ImL.length i1]; exact hlen, (fun z => by cases z), fun j c hc o => ?_, ?_, ?_⟩
        · cases j with
          | zero => rfl
          | succ j =>
            rw [List.getElem?_cons_succ, List.getElem?_map] at hc
            cases hd : ds[j]? with
            | none => rw [hd] at hc; cases hc
            | some d => rw [hd] at hc; cases hc; exact o.elim
        · refine ⟨⟨fun c o e n => ?_, fun c ps e => ?_, fun _ => a1.tab⟩, a1.tab, fun v z => ?_, by simp [ImL.length i1], fun j y e => ?_, fun j l y z v hjl e1 e2 o1 o2 => ?_⟩
          · have e : hide (some q0) H1 c = some o := e
            by_cases hc : c = q0
            · rw [hc, hide_self] at e; cases e
            · rw [hide_ne hc] at e; exact e
          · have e : hide (some q0) H1 c = some (.tbl ps) := e
            by_cases hc : c = q0
            · rw [hc, hide_self] at e; cases e
            · rw [hide_ne hc] at e; exact ⟨ps, e⟩
          · have z : (some q0).map V.ref = some v := z
            cases z; rfl
          · cases j with
            | zero =>
              cases e
              exact ⟨.ref q0, rfl, q0, ws, rfl, by show hide (some q0) H1 q0 = none; exact hide_self, hl, im⟩
            | succ j =>
              rw [List.map_cons, List.getElem?_cons_succ, List.map_map, List.getElem?_map] at e
              cases hd : ds[j]? with
              | none => rw [hd] at e; cases e
              | some d =>
                rw [hd] at e; cases e
                obtain ⟨v, hv, iv⟩ := ImL.get' i1 hd
                exact ⟨v, by rw [List.map_cons, List.getElem?_cons_succ, List.getElem?_map, hv]; rfl, iv⟩
          · have one : ∀ {t : Nat} {c : Cell}, ((Cell.l xs :: ds.map Cell.d).map some)[t]? = some (some c) → c.own → t = 0 := fun {t c} e o => by
              cases t with
              | zero => rfl
              | succ t =>
                rw [List.map_cons, List.getElem?_cons_succ, List.map_map, List.getElem?_map] at e
                cases hd : ds[t]? with
                | none => rw [hd] at e; cases e
                | some d => rw [hd] at e; cases e; exact o.elim
            exact absurd ((one e1 o1).trans (one e2 o2).symm) hjl
        · have fin : ∀ {ρ' : DEnv} {H' : Hp} {ys : List D}, ρ'[0]? = some (some (.l ys)) → Post (bcOf b.P b.w b.K b.mg b.tb (.ref q0 :: vs) (Cell.l xs :: ds.map Cell.d) H1) (.ref q0 :: vs) (Cell.l xs :: ds.map Cell.d) ρ' H1 H' → At b σ (ρ1.set i (some (.l ys))) H' := fun {ρ' H' ys} e pt => by
            have cc := pt.own q0 _ ho e
            obtain ⟨q2, us, e2, _, hl2, im2⟩ := cc
            cases e2
            exact a1.called hxs trivial hq0 hB pt.up pt.keep pt.tab trivial ⟨q0, us, rfl, hB, hl2, im2⟩
          cases eF : F (Cell.l xs :: ds.map Cell.d) with
          | ok d ρ' =>
            rw [eF] at q1
            dsimp only at q1
            split at q1
            · rename_i ys e0
              exact fun v H' pt i' => q1 v H' (fin e0 pt) (k1.trans pt.keep) i'
            · exact q1.elim
          | exc e' ρ' =>
            rw [eF] at q1
            dsimp only at q1
            split at q1
            · rename_i ys e0
              exact fun cls dx H' pt z => q1.2 cls dx H' (fin e0 pt) (k1.trans pt.keep) z
            · exact q1.elim
          | stuck => rw [eF] at q1; exact q1.elim
      · exact q1.elim
    · exact q1.elim
  · exact q.elim
end
end DL
end
section
set_option Elab.async false
set_option linter.all false
set_option maxRecDepth 100000
set_option maxHeartbeats 2000000
namespace DL
open PySem PySem.Spec PyProof.Rows L2

/-! ### data as the library's data -/
mutual
def D.py : D → PyData
  | .non => .none
  | .bl b => .bool b
  | .int i => .int i
  | .str x => .str x
  | .tup xs => .tuple (D.pys xs)
  | .lst xs => .list (D.pys xs)
  | .dct _ => .none
  | .op _ => .none
def D.pys : List D → List PyData
  | [] => []
  | x :: xs => D.py x :: D.pys xs
end
mutual
def D.okp : D → Bool
  | .tup xs => D.okps xs
  | .lst xs => D.okps xs
  | .dct _ => false
  | .op _ => false
  | _ => true
def D.okps : List D → Bool
  | [] => true
  | x :: xs => D.okp x && D.okps xs
end
def D.sh (d : D) : Bool := d.okp && SeqAt.shaped d.py
section
variable {b : BC} {H : Hp}
mutual
theorem dp_of : ∀ {v : V} {d : D}, b.Im H v d → d.okp = true → Dp b.K H v d.py
  | _, _, .non, _ => .non
  | _, _, .bl k, _ => .bl k
  | _, _, .int i, _ => .int i
  | _, _, .str x, _ => .str x
  | _, _, .tup (xs := xs) h r, o => by
    rw [D.py]
    exact .tup h (dpAll_of r (by rw [D.okp] at o; exact o))
  | _, _, .lst (xs := xs) ⟨ob, h⟩ r, o => by
    rw [D.py]
    exact .lst (.inl (.inr ⟨ob, h⟩)) (dpAll_of r (by rw [D.okp] at o; exact o))
  | _, _, .dct _ _ _ _, o => by rw [D.okp] at o; cases o
  | _, _, .op _, o => by rw [D.okp] at o; cases o
theorem dpAll_of : ∀ {vs : List V} {xs : List D}, b.ImL H vs xs → D.okps xs = true → DpAll b.K H vs (D.pys xs)
  | _, _, .nil, _ => .nil
  | _, _, .cons (x := x) (xs := xs) a r, o => by
    rw [D.okps, Bool.and_eq_true] at o
    rw [D.pys]
    exact .cons (dp_of a o.1) (dpAll_of r o.2)
end
theorem sh_of {d : D} (h : d.sh = true) : d.okp = true ∧ SeqAt.shaped d.py = true := Bool.and_eq_true_iff.mp h
end

/-! ### operations -/
section
variable {X : Cx}
/-- list + list, frozen ones too -/
def rCatR : R2 := fun x y H Q => ∃ l b xs zs, x = .ref l ∧ y = .ref b ∧ Rd H l (.lst xs) ∧ Rd H b (.lst zs) ∧ xs.length + zs.length ≤ sizeLine ∧ ∀ p, H p = none → Q (.ref p) (upd H p (.lst (xs ++ zs)))
theorem op_catR : OpR X (binaryOp .Add) rCatR := by
  intro pins s σ H x y v u Q I rx ry h
  obtain ⟨l, b, xs, zs, rfl, rfl, hH, hB, hz, q⟩ := h
  cases rx
  cases ry
  obtain ⟨_, its, n, r, e⟩ := hH.ok I.hok
  obtain ⟨_, its2, n2, r2, e2⟩ := hB.ok I.hok
  have hl := r.length
  have hl2 := r2.length
  refine PySem.P.add_list e e2 ?_ (by rw [List.size_toArray, List.size_toArray]; omega)
  have ea : its.toArray ++ its2.toArray = (its ++ its2).toArray := by simp
  rw [ea]
  exact ⟨.ref _, _, I.lnew (t' := s.toks) (r.append r2) (by rw [List.length_append]; omega), rfl, q _ I.fresh⟩
/-- list * int, frozen ones too -/
def rRepR : R2 := fun x y H Q => ∃ l k xs, x = .ref l ∧ y = .int k ∧ Rd H l (.lst xs) ∧ -(2 ^ 63) ≤ k ∧ k < 2 ^ 63 ∧ xs.length * k.toNat ≤ sizeLine ∧
  ∀ p, H p = none → Q (.ref p) (upd H p (.lst (List.replicate k.toNat xs).flatten))
theorem op_repR : OpR X (binaryOp .Mult) rRepR := by
  intro pins s σ H x y v u Q I rx ry h
  obtain ⟨l, k, xs, rfl, rfl, hH, h1, h2, hz, q⟩ := h
  cases rx
  obtain ⟨t, rfl⟩ := ry
  obtain ⟨_, its, n, r, e⟩ := hH.ok I.hok
  have hl := r.length
  have hlen : its.toArray.size * k.toNat ≤ sizeLine := by rw [List.size_toArray, ← hl]; exact hz
  have hcap : ¬ its.toArray.size * k.toNat > (2 ^ 63 - 1) / 8 := by
    have : (sizeLine : Nat) ≤ (2 ^ 63 - 1) / 8 := by decide
    omega
  have hfit : ¬ (!Builtin.List.listFitsIndex k) = true := by
    rw [fitsIndex_both h1 h2]
    exact Bool.false_ne_true
  have hlong : ¬ Builtin.List.listTooLong (its.toArray.size * k.toNat) = true := by
    rw [notLongL hlen]
    exact Bool.false_ne_true
  have hnew : List.foldl (fun x1 x2 => x1 ++ x2) #[] (List.replicate (if its.toArray.isEmpty = true then 0 else k.toNat) its.toArray) = (List.replicate k.toNat its).flatten.toArray := by
    have f0 : ∀ m : Nat, List.foldl (fun x1 x2 => x1 ++ x2) #[] (List.replicate m its.toArray) = (List.replicate m its).flatten.toArray := fun m => by
      have := foldl_rep its m []
      rw [List.nil_append] at this
      exact this
    rw [f0]
    cases its with
    | nil => simp
    | cons a r' => rw [if_neg (by simp)]
  refine wpAny_binaryOp_repeat_ref (T := "list") (U := "int") (by decide) ⟨_, e, rfl⟩ (fun s' => typeIs_int s' k t) noFill_list_mul F.fills_int_mul F.slot_int_rmul repeat_list F.slot_int_index.lookup
    (call_meets F.slot_int_rmul (typeIs_int s k t) F.entry_int_rmul (F.args_int_rmul_2 _ _) (int___rmul___int_list k t l its.toArray n)
      ⟨e, rfl, ⟨_, e, rfl⟩, call_meets F.slot_list_mul ⟨_, e, rfl⟩ F.entry_list_mul (F.args_list_mul_2 _ _) (AutoListH.list___mul___list_int_3 l its.toArray n k t hfit hcap hlong) ⟨e, ?_⟩⟩)
  rw [hnew]
  exact ⟨.ref _, _, I.lnew (t' := s.toks) (r.rep k.toNat) (by rw [PyProof.Rows.lm_len_rep_flat, Nat.mul_comm]; exact hz), rfl, q _ I.fresh⟩
end
theorem imL_rep {b : BC} {H : Hp} {vs : List V} {xs : List D} (h : b.ImL H vs xs) : ∀ n, b.ImL H (List.replicate n vs).flatten (List.replicate n xs).flatten
  | 0 => .nil
  | n + 1 => by
    rw [List.replicate_succ, List.replicate_succ, List.flatten_cons, List.flatten_cons]
    exact h.append (imL_rep h n)

def dAdd : D → D → Option D
  | .int i, .int j => some (.int (i + j))
  | .str x, .str y => if x.length + y.length ≤ 16000000 then some (.str (x ++ y)) else none
  | .tup xs, .tup ys => if xs.length + ys.length ≤ 16000000 then some (.tup (xs ++ ys)) else none
  | .lst xs, .lst ys => if xs.length + ys.length ≤ 16000000 then some (.lst (xs ++ ys)) else none
  | _, _ => none
abbrev rAddX (K : PySem.W.Frag) : R2 := fun x y H Q => rI0 (fun i j => .int (i + j)) x y H Q ∨ (∃ i j, x = .str i ∧ y = .str j ∧ i.length + j.length ≤ sizeLine ∧ Q (.str (i ++ j)) H) ∨ rCatA K x y H Q ∨ rCatR x y H Q
theorem o_add {X : Cx} : OpR X (binaryOp .Add) (rAddX X.K) := op_add.or (op_add_str.or (op_catA.or op_catR))
theorem rd_lst {b : BC} {H : Hp} {v : V} {xs : List D} (i : b.Im H v (.lst xs)) : ∃ a vs, v = .ref a ∧ Rd H a (.lst vs) ∧ b.ImL H vs xs := by
  cases i with
  | lst h r => obtain ⟨o, h⟩ := h; exact ⟨_, _, rfl, .inr ⟨o, h⟩, r⟩
theorem sq_tup {b : BC} {H : Hp} {v : V} {xs : List D} (i : b.Im H v (.tup xs)) : ∃ a vs, v = .ref a ∧ SqT b.K H a vs ∧ b.ImL H vs xs := by
  cases i with
  | tup h r => exact ⟨_, _, rfl, h, r⟩
theorem imL_nil {b : BC} {H : Hp} {vs : List V} {xs : List D} (i : b.ImL H vs xs) : vs = [] ↔ xs = [] := by
  cases i with
  | nil => simp
  | cons _ _ => simp
theorem s_add (b : BC) : Sd2 b (rAddX b.K) dAdd := fun H x y dx dy d Q ix iy e q => by
  unfold dAdd at e
  split at e
  · cases e; cases ix; cases iy; exact .inl ⟨_, _, rfl, rfl, fin_val q (.int _)⟩
  · split at e
    · rename_i hl
      cases e; cases ix; cases iy; exact .inr (.inl ⟨_, _, rfl, rfl, size_line hl, fin_val q (.str _)⟩)
    · cases e
  · split at e
    · rename_i hl
      cases e
      obtain ⟨a1, v1, rfl, s1, m1⟩ := sq_tup ix
      obtain ⟨a2, v2, rfl, s2, m2⟩ := sq_tup iy
      refine .inr (.inr (.inl ⟨a1, a2, v1, v2, rfl, rfl, s1, s2, by rw [ImL.length m1, ImL.length m2]; exact size_line hl, fun z => ?_, fun _ z => ?_, fun _ _ p hp => fin_tup q hp (m1.append m2)⟩))
      · rw [imL_nil m1] at z
        subst z
        exact fin_val q (by rw [List.nil_append]; exact .tup s2 m2)
      · rw [imL_nil m2] at z
        subst z
        exact fin_val q (by rw [List.append_nil]; exact .tup s1 m1)
    · cases e
  · split at e
    · rename_i hl
      cases e
      obtain ⟨a1, v1, rfl, s1, m1⟩ := rd_lst ix
      obtain ⟨a2, v2, rfl, s2, m2⟩ := rd_lst iy
      exact .inr (.inr (.inr ⟨a1, a2, v1, v2, rfl, rfl, s1, s2, by rw [ImL.length m1, ImL.length m2]; exact size_line hl, fun p hp => fin_lst q hp (m1.append m2)⟩))
    · cases e
  · cases e
def dSub : D → D → Option D
  | .int i, .int j => some (.int (i - j))
  | _, _ => none
theorem s_sub (b : BC) : Sd2 b (rI0 fun i j => .int (i - j)) dSub := fun H x y dx dy d Q ix iy e q => by
  unfold dSub at e
  split at e
  · cases e; cases ix; cases iy; exact ⟨_, _, rfl, rfl, fin_val q (.int _)⟩
  · cases e
def dMul : D → D → Option D
  | .int i, .int j => if -(2 ^ 64) < i ∧ i < 2 ^ 64 then some (.int (i * j)) else none
  | .lst xs, .int k => if -1000000 ≤ k ∧ k ≤ 1000000 ∧ xs.length * k.toNat ≤ 16000000 then some (.lst (List.replicate k.toNat xs).flatten) else none
  | .tup xs, .int k => if xs ≠ [] ∧ 2 ≤ k ∧ k ≤ 1000 ∧ xs.length ≤ 1000 then some (.tup (List.replicate k.toNat xs).flatten) else none
  | _, _ => none
abbrev rMulX (K : PySem.W.Frag) : R2 := fun x y H Q => rI CMul (fun i j => .int (i * j)) x y H Q ∨ rRepR x y H Q ∨ rRepT K x y H Q
theorem o_mul {X : Cx} : OpR X (binaryOp .Mult) (rMulX X.K) := op_mul.or (op_repR.or op_repT)
theorem s_mul (b : BC) : Sd2 b (rMulX b.K) dMul := fun H x y dx dy d Q ix iy e q => by
  unfold dMul at e
  split at e
  · split at e
    · rename_i hl
      cases e; cases ix; cases iy; exact .inl ⟨_, _, rfl, rfl, .inl ⟨by omega, by omega⟩, fin_val q (.int _)⟩
    · cases e
  · split at e
    · rename_i hl
      cases e; cases iy
      obtain ⟨a1, v1, rfl, s1, m1⟩ := rd_lst ix
      refine .inr (.inl ⟨a1, _, v1, rfl, rfl, s1, by omega, by omega, by rw [ImL.length m1]; exact size_line hl.2.2, fun p hp => fin_lst q hp (imL_rep m1 _)⟩)
    · cases e
  · split at e
    · rename_i hl
      cases e; cases iy
      obtain ⟨a1, v1, rfl, s1, m1⟩ := sq_tup ix
      refine .inr (.inr ⟨a1, _, v1, rfl, rfl, s1, fun z => hl.1 ((imL_nil m1).mp z), hl.2.1, hl.2.2.1, by rw [ImL.length m1]; exact hl.2.2.2, fun p hp => fin_tup q hp (imL_rep m1 _)⟩)
    · cases e
  · cases e
def dMod : D → D → Option D
  | .int i, .int j => if j ≠ 0 then some (.int (i.fmod j)) else none
  | _, _ => none
theorem s_mod (b : BC) : Sd2 b (rI (fun _ j => j ≠ 0) fun i j => .int (i.fmod j)) dMod := fun H x y dx dy d Q ix iy e q => by
  unfold dMod at e
  split at e
  · split at e
    · rename_i hl
      cases e; cases ix; cases iy; exact ⟨_, _, rfl, rfl, hl, fin_val q (.int _)⟩
    · cases e
  · cases e
def dFdiv : D → D → Option D
  | .int i, .int j => if j ≠ 0 ∧ j.natAbs < 1073741824 then some (.int (i.fdiv j)) else none
  | _, _ => none
theorem s_fdiv (b : BC) : Sd2 b (rI CDivN fun i j => .int (i.fdiv j)) dFdiv := fun H x y dx dy d Q ix iy e q => by
  unfold dFdiv at e
  split at e
  · split at e
    · rename_i hl
      cases e; cases ix; cases iy; exact ⟨_, _, rfl, rfl, hl, fin_val q (.int _)⟩
    · cases e
  · cases e
def dPow : D → D → Option D
  | .int i, .int j => if 0 ≤ j ∧ j ≤ 1000000 ∧ i.natAbs < 2 ^ 64 then some (.int (i ^ j.toNat)) else none
  | _, _ => none
theorem s_pow (b : BC) : Sd2 b (rI CPow fun i j => .int (i ^ j.toNat)) dPow := fun H x y dx dy d Q ix iy e q => by
  unfold dPow at e
  split at e
  · split at e
    · rename_i hl
      cases e; cases ix; cases iy; exact ⟨_, _, rfl, rfl, hl, fin_val q (.int _)⟩
    · cases e
  · cases e
def dShl : D → D → Option D
  | .int i, .int j => if 0 ≤ j ∧ j ≤ 1000000 ∧ i.natAbs < 2 ^ 64 then some (.int (i * 2 ^ j.toNat)) else none
  | _, _ => none
theorem s_shl (b : BC) : Sd2 b (rI CPow fun i j => .int (i * 2 ^ j.toNat)) dShl := fun H x y dx dy d Q ix iy e q => by
  unfold dShl at e
  split at e
  · split at e
    · rename_i hl
      cases e; cases ix; cases iy; exact ⟨_, _, rfl, rfl, hl, fin_val q (.int _)⟩
    · cases e
  · cases e
def dNeg : D → Option D
  | .int i => some (.int (-i))
  | _ => none
theorem s_neg (b : BC) : Sd1 b (rU fun i => .int (-i)) dNeg := fun H x dx d Q ix e q => by
  unfold dNeg at e
  split at e
  · cases e; cases ix; exact ⟨_, rfl, fin_val q (.int _)⟩
  · cases e
/-- comparisons of whole numbers -/
@[reducible] def dCmpI (p : Int → Int → Bool) : D → D → Option D
  | .int i, .int j => some (.bl (p i j))
  | _, _ => none
theorem s_cmpI (b : BC) (p : Int → Int → Bool) : Sd2 b (rI0 fun i j => .bl (p i j)) (dCmpI p) := fun H x y dx dy d Q ix iy e q => by
  unfold dCmpI at e
  split at e
  · cases e; cases ix; cases iy; exact ⟨_, _, rfl, rfl, fin_val q (.bl _)⟩
  · cases e
theorem bl_cmpI {p : Int → Int → Bool} : ∀ d1 d2 d, dCmpI p d1 d2 = some d → ∃ k, d = .bl k := fun d1 d2 d e => by
  unfold dCmpI at e
  split at e
  · cases e; exact ⟨_, rfl⟩
  · cases e
/-- equality of data -/
@[reducible] def dEq (neg : Bool) (x y : D) : Option D := if x.sh = true ∧ y.sh = true then some (.bl (xor neg (PyData.eqv x.py y.py))) else none
theorem s_eq (b : BC) : Sd2 b (rEqD b.K) (dEq false) := fun H x y dx dy d Q ix iy e q => by
  unfold dEq at e
  split at e
  · rename_i hl
    cases e
    obtain ⟨o1, s1⟩ := sh_of hl.1
    obtain ⟨o2, s2⟩ := sh_of hl.2
    exact ⟨_, _, dp_of ix o1, dp_of iy o2, s1, s2, fin_val q (by rw [Bool.false_xor]; exact .bl _)⟩
  · cases e
theorem s_ne (b : BC) : Sd2 b (rNeD b.K) (dEq true) := fun H x y dx dy d Q ix iy e q => by
  unfold dEq at e
  split at e
  · rename_i hl
    cases e
    obtain ⟨o1, s1⟩ := sh_of hl.1
    obtain ⟨o2, s2⟩ := sh_of hl.2
    exact ⟨_, _, dp_of ix o1, dp_of iy o2, s1, s2, fin_val q (by rw [Bool.true_xor]; exact .bl _)⟩
  · cases e
theorem bl_eq {n : Bool} : ∀ d1 d2 d, dEq n d1 d2 = some d → ∃ k, d = .bl k := fun d1 d2 d e => by
  unfold dEq at e
  split at e
  · cases e; exact ⟨_, rfl⟩
  · cases e
/-- x is None -/
def D.isNon : D → Option Bool
  | .non => some true
  | .op _ => none
  | _ => some false
@[reducible] def dIsN (neg : Bool) : D → D → Option D
  | x, .non => (D.isNon x).map fun k => .bl (xor neg k)
  | _, _ => none
theorem isN_of {b : BC} {H : Hp} {v : V} {d : D} {k : Bool} (i : b.Im H v d) (e : d.isNon = some k) : decide (v = V.non) = k := by
  cases i <;> first | (cases e; rfl) | (cases e; exact decide_eq_false (fun z => nomatch z)) | cases e
theorem s_isN (b : BC) : Sd2 b (fun x y H Q => y = .non ∧ Q (.bl (decide (x = .non))) H) (dIsN false) := fun H x y dx dy d Q ix iy e q => by
  unfold dIsN at e
  split at e
  · obtain ⟨k, ek, rfl⟩ := Option.map_eq_some_iff.mp e
    cases iy
    exact ⟨rfl, fin_val q (by rw [isN_of ix ek, Bool.false_xor]; exact .bl _)⟩
  · cases e
theorem s_notN (b : BC) : Sd2 b (fun x y H Q => y = .non ∧ Q (.bl (!decide (x = .non))) H) (dIsN true) := fun H x y dx dy d Q ix iy e q => by
  unfold dIsN at e
  split at e
  · obtain ⟨k, ek, rfl⟩ := Option.map_eq_some_iff.mp e
    cases iy
    exact ⟨rfl, fin_val q (by rw [isN_of ix ek, Bool.true_xor]; exact .bl _)⟩
  · cases e
theorem bl_isN {n : Bool} : ∀ d1 d2 d, dIsN n d1 d2 = some d → ∃ k, d = .bl k := fun d1 d2 d e => by
  unfold dIsN at e
  split at e
  · obtain ⟨k, ek, rfl⟩ := Option.map_eq_some_iff.mp e; exact ⟨_, rfl⟩
  · cases e
/-- x is True, x is not False, .. of truth values -/
@[reducible] def dIsB (neg : Bool) : D → D → Option D
  | .bl i, .bl j => some (.bl (xor neg (decide (i = j))))
  | _, _ => none
theorem s_isB (b : BC) : Sd2 b (fun x y H Q => ∃ a c, x = .bl a ∧ y = .bl c ∧ Q (.bl (decide (a = c))) H) (dIsB false) := fun H x y dx dy d Q ix iy e q => by
  unfold dIsB at e
  split at e
  · cases e; cases ix; cases iy; exact ⟨_, _, rfl, rfl, fin_val q (by rw [Bool.false_xor]; exact .bl _)⟩
  · cases e
theorem s_notB (b : BC) : Sd2 b (fun x y H Q => ∃ a c, x = .bl a ∧ y = .bl c ∧ Q (.bl (!decide (a = c))) H) (dIsB true) := fun H x y dx dy d Q ix iy e q => by
  unfold dIsB at e
  split at e
  · cases e; cases ix; cases iy; exact ⟨_, _, rfl, rfl, fin_val q (by rw [Bool.true_xor]; exact .bl _)⟩
  · cases e
theorem bl_isB {n : Bool} : ∀ d1 d2 d, dIsB n d1 d2 = some d → ∃ k, d = .bl k := fun d1 d2 d e => by
  unfold dIsB at e
  split at e
  · cases e; exact ⟨_, rfl⟩
  · cases e
/-- an item -/
def dIx : D → D → Option D
  | .lst xs, .int i => atI xs i
  | .tup xs, .int i => atI xs i
  | .str z, .int i => if z.length ≤ 16000000 then (atI z.cps.toList i).map fun c => .str ⟨#[c]⟩ else none
  | _, _ => none
theorem atI_im {b : BC} {H : Hp} {vs : List V} {xs : List D} {i : Int} {d : D} (m : b.ImL H vs xs) (e : atI xs i = some d) : ∃ v, atI vs i = some v ∧ b.Im H v d := by
  unfold atI at e ⊢
  rw [ImL.length m]
  obtain ⟨j, hj, e2⟩ := Option.bind_eq_some_iff.mp e
  obtain ⟨v, hv, iv⟩ := ImL.get' m e2
  exact ⟨v, by rw [hj]; exact hv, iv⟩
theorem s_ix (b : BC) : Sd2 b (rIx b.K) dIx := fun H x y dx dy d Q ix iy e q => by
  unfold dIx at e
  split at e
  · cases iy
    obtain ⟨a1, v1, rfl, s1, m1⟩ := rd_lst ix
    obtain ⟨v, hv, iv⟩ := atI_im m1 e
    exact .inl ⟨_, _, _, v, rfl, rfl, .inl s1, hv, fin_val q iv⟩
  · cases iy
    obtain ⟨a1, v1, rfl, s1, m1⟩ := sq_tup ix
    obtain ⟨v, hv, iv⟩ := atI_im m1 e
    exact .inr (.inl ⟨_, _, _, v, rfl, rfl, s1, hv, fin_val q iv⟩)
  · split at e
    · rename_i hl
      cases ix; cases iy
      obtain ⟨c, hc, rfl⟩ := Option.map_eq_some_iff.mp e
      exact .inr (.inr ⟨_, _, c, rfl, rfl, size_line hl, hc, fin_val q (.str _)⟩)
    · cases e
  · cases e
end DL
end
section
set_option Elab.async false
set_option linter.all false
set_option maxRecDepth 100000
set_option maxHeartbeats 2000000
namespace DL
open PySem PySem.Spec PyProof.Rows L2

/-! ### owned lists -/
theorem set_self {σ : L2.St} {i : Nat} {v : Option V} (h : σ[i]? = some v) : σ.set i v = σ := by
  apply List.ext_getElem?
  intro j
  by_cases hj : i = j
  · subst hj
    rw [List.getElem?_set_self (List.getElem?_eq_some_iff.mp h).1, h]
  · rw [List.getElem?_set_ne hj]
/-- the owned list in slot i is frozen -/
def frzD (i : Nat) (ρ : DEnv) : DEnv := match ρ[i]? with
  | some (some (.l xs)) => ρ.set i (some (.d (.lst xs)))
  | _ => ρ
section
variable {b : BC} {x : XC} {σ : L2.St} {ρ : DEnv} {H : Hp}
theorem At.frz {i : Nat} {xs : List D} {a : Addr} {vs : List V} {o : Obj} (h : At b σ ρ H) (hi : ρ[i]? = some (some (.l xs))) (hs : σ[i]? = some (some (.ref a))) (hB : b.B a = none) (hl : H a = some (.lst vs)) (im : b.ImL H vs xs) :
    At b σ (ρ.set i (some (.d (.lst xs)))) (upd H a (.frz o (.lst vs))) ∧ Keep H (upd H a (.frz o (.lst vs))) := by
  have km : Keep H (upd H a (.frz o (.lst vs))) := Keep.mut hl (fun _ z => by cases z) (fun _ _ z => by cases z)
  refine ⟨?_, km⟩
  have h1 := h.forget (i := i)
  have il : i < ρ.length := (List.getElem?_eq_some_iff.mp hi).1
  have h2 : At b σ (ρ.set i none) (upd H a (.frz o (.lst vs))) := h1.other hB hl (fun _ z => by cases z) (fun _ _ z => by cases z) (fun _ z => by cases z) fun j y e oy z => by
    by_cases hj : i = j
    · subst hj
      rw [List.getElem?_set_self il] at e; cases e
    · rw [List.getElem?_set_ne hj] at e
      exact h.apart i j (.l xs) y _ hj hi e trivial oy hs z
  exact {
    ext := h2.ext
    tab := h2.tab
    pin := h2.pin
    len := by rw [List.length_set]; exact h.len
    cells := fun j y e => by
      by_cases hj : i = j
      · subst hj
        rw [List.getElem?_set_self il] at e; cases e
        exact ⟨_, hs, .lst ⟨o, upd_same⟩ (ImL.keep km im)⟩
      · rw [List.getElem?_set_ne hj] at e
        exact h2.cells j y (by rw [List.getElem?_set_ne hj]; exact e)
    apart := fun j k y z v hjk e1 e2 o1 o2 => by
      by_cases hj : i = j
      · subst hj
        rw [List.getElem?_set_self il] at e1; cases e1; exact o1.elim
      · by_cases hk : i = k
        · subst hk
          rw [List.getElem?_set_self il] at e2; cases e2; exact o2.elim
        · rw [List.getElem?_set_ne hj] at e1
          rw [List.getElem?_set_ne hk] at e2
          exact h2.apart j k y z v hjk (by rw [List.getElem?_set_ne hj]; exact e1) (by rw [List.getElem?_set_ne hk]; exact e2) o1 o2 }
end
section
variable {X : Cx} {b : BC} {x : XC} {e e1 e2 : Expr} {es : List Expr} {pos pos' p : Pos} {f h : Act D} {fs : Act (List D)} {g : GS} {st : Stmt} {n : Str}
/-- a statement that may read slot i as data from now on -/
theorem s_frz (i : Nat) (hst : PS X st (tS b x g)) : PS X st (tS b x fun ρ => g (frzD i ρ)) := by
  refine ⟨fun pins s σ H E I ⟨ρ, a, q⟩ => ?_⟩
  replace q : GoS b x H (g (frzD i ρ)) E := q
  unfold frzD at q
  split at q
  · rename_i xs hx
    obtain ⟨v, hv, a0, vs, rfl, hB, hl, im⟩ := a.cells i _ hx
    obtain ⟨o, I2⟩ := I.freeze hl trivial (fun _ _ _ z => by cases z)
    obtain ⟨a2, k2⟩ := a.frz (o := o) hx hv hB hl im
    exact hst.run pins s σ _ E I2 ⟨_, a2, q.keep k2⟩
  · exact hst.run pins s σ H E I ⟨ρ, a, q⟩
/-- a display, a sum of lists: new lists that may be owned -/
theorem px_lstF (ha : PA X es (tL b x fs)) : PE X (.List es pos) (tF b x (fs.bind fun ds => lift (if ds.length ≤ 16000000 then some ds else none))) :=
  (pe_lst ha).mono fun σ H Q ⟨ρ, a, q⟩ => tL_step (Keep.refl H) a q fun ds ρ1 vs H1 a1 k1 i1 q1 => by
    obtain ⟨d, e, q2⟩ := lift_go q1
    split at e
    · rename_i hl
      cases e
      refine ⟨size_line (by rw [ImL.length i1]; exact hl), fun p hp => ?_⟩
      have u : Up b.tb H1 (upd H1 p (.lst vs)) := Up.new hp
      exact q2 p vs _ (a1.up u) (k1.trans u.toKeep) (a1.bNone hp) (a1.notNew hp) upd_same (ImL.keep u.toKeep i1)
    · cases e
def dCatF : D → D → Option (List D)
  | .lst xs, .lst ys => if xs.length + ys.length ≤ 16000000 then some (xs ++ ys) else none
  | _, _ => none
theorem px_catF (h1 : PE X e1 (tD b x f)) (h2 : PE X e2 (tD b x h)) : PE X (.BinOp e1 .Add e2 pos) (tF b x (f.bind fun d1 => h.bind fun d2 => lift (dCatF d1 d2))) :=
  (pe_op op_catR h1 h2).mono fun σ H Q ⟨ρ, a, q⟩ => tD_step (Keep.refl H) a q fun d1 ρ1 v1 H1 a1 k1 i1 q1 => tD_step k1 a1 q1 fun d2 ρ2 v2 H2 a2 k2 i2 q2 => by
    obtain ⟨d, e, q3⟩ := lift_go q2
    unfold dCatF at e
    split at e
    · split at e
      · rename_i hl
        cases e
        obtain ⟨p1, w1, rfl, s1, m1⟩ := rd_lst (Im.keep k2 i1)
        obtain ⟨p2, w2, rfl, s2, m2⟩ := rd_lst i2
        refine ⟨p1, p2, w1, w2, rfl, rfl, s1, s2, by rw [ImL.length m1, ImL.length m2]; exact size_line hl, fun p hp => ?_⟩
        have u : Up b.tb H2 (upd H2 p (.lst (w1 ++ w2))) := Up.new hp
        exact q3 p _ _ (a2.up u) ((k1.trans k2).trans u.toKeep) (a2.bNone hp) (a2.notNew hp) upd_same (ImL.keep u.toKeep (m1.append m2))
      · cases e
    · cases e
@[reducible] def gOwn (i : Nat) (fs : Act (List D)) : GS := gOf fs fun ds ρ => .nx (ρ.set i (some (.l ds)))
theorem s_own {i : Nat} (hp : b.pin = none ∨ i ≠ 0) (hN : X.N.Nodup) (hi : X.N[i]? = some n) (hx : Loc X.env.scope n) (he : PE X e (tF b x fs)) (hs : swapsWith e (some (.Name n pos')) pos.line X.env = pure false := by rfl)
    (hf : X.fn n = true ∨ X.env.scope.names.lookup n = some .local := by first | exact .inl rfl | exact .inr rfl | assumption) : PS X (.Assign [.Name n pos'] e pos) (tS b x (gOwn i fs)) :=
  (ps_set hN hi hx he hs hf).mono fun E σ H ⟨ρ, a, q⟩ => tF_S a q fun ds ρ1 p vs H1 a1 k1 hB hn hpp im q1 => q1 _ H1 (a1.adopt hp hn ⟨p, vs, rfl, hB, hpp, im⟩) k1
def getL (i : Nat) (ρ : DEnv) : Option (List D) := match ρ[i]? with
  | some (some (.l xs)) => some xs
  | _ => none
theorem getL_some {i : Nat} {ρ : DEnv} {xs : List D} (h : getL i ρ = some xs) : ρ[i]? = some (some (.l xs)) := by
  unfold getL at h
  split at h
  · cases h; assumption
  · cases h
/-- x.append(e) -/
def gApp (i : Nat) (f : Act D) : GS := fun ρ0 => match getL i ρ0 with
  | none => .stuck
  | some _ => gOf f (fun d ρ => match getL i ρ with
    | some xs => if xs.length < 16000000 then .nx (ρ.set i (some (.l (xs ++ [d])))) else .stuck
    | none => .stuck) ρ0
theorem s_app {o : Expr} (i : Nat) {apos cpos epos : Pos} (ho : PE X o (tVar i)) (he : PE X e (tD b x f))
    (hs1 : starEach (e :: []) X.env = (false, eval e X.env) :: starEach [] X.env := by rfl)
    (hbase : attributeBase o "append" X.env (eval o X.env) = eval o X.env := by rfl)
    (hfew : ((backTo cpos (starEach (e :: []) X.env)).all (fun x => !x.1) && (backToKw cpos (keywordEach [] X.env)).all (fun x => x.1.isSome)
      && decide ((e :: []).length + ([] : List Keyword).length + (if ([] : List Keyword).isEmpty then 0 else 1) < 30)) = true := by rfl)
    (hline : (apos.endLine == cpos.line) = true := by rfl) (hpl : (backTo cpos (starEach [] X.env)).any (·.1) = false := by rfl) (hs : swapsWith (.Call (.Attribute o "append" apos) [e] [] cpos) none epos.line X.env = pure false := by rfl) :
    PS X (.Expr (.Call (.Attribute o "append" apos) [e] [] cpos) epos) (tS b x (gApp i f)) :=
  (ps_expr (pe_bm PySem.F.plainAttrs_list PySem.F.slot_list_append PySem.F.type_list_append mt_append ho (pa_cons he pa_nil hs1) (hbase := hbase) (hfew := hfew) (hline := hline) (hs := hs1) (hplain := hpl)) hs).mono fun E σ H ⟨ρ, a, q⟩ => by
    unfold gApp at q
    cases e0 : getL i ρ with
    | none => rw [e0] at q; exact q.elim
    | some xs0 =>
      rw [e0] at q
      obtain ⟨v, hv, p0, vs0, rfl, hB, hl0, _⟩ := a.cells i _ (getL_some e0)
      refine ⟨_, hv, .inl ⟨rfl, vs0, SqL.of hl0⟩, tD_S a q fun d ρ1 v H1 a1 k1 i1 q1 => ?_⟩
      cases e1 : getL i ρ1 with
      | none => rw [e1] at q1; exact q1.elim
      | some xs =>
        simp only [e1] at q1
        split at q1
        · rename_i hlen
          obtain ⟨v', hv', p1, vs, rfl, hB1, hl, im⟩ := a1.cells i _ (getL_some e1)
          rw [hv] at hv'; cases hv'
          refine ⟨p0, vs, v, rfl, rfl, hl, by rw [ImL.length im]; exact Nat.lt_of_lt_of_le hlen (size_line (Nat.le_refl _)), ?_⟩
          have km : Keep H1 (upd H1 p0 (.lst (vs ++ [v]))) := Keep.mut hl (fun _ z => by cases z) (fun _ _ z => by cases z)
          exact q1 σ _ (a1.mutate (getL_some e1) trivial hv hB1 hl (fun _ z => by cases z) (fun _ _ z => by cases z) (fun _ z => by cases z) ⟨p0, _, rfl, hB1, upd_same, (ImL.keep km im).append (.cons (Im.keep km i1) .nil)⟩ trivial) (k1.trans km)
        · exact q1.elim
/-- x.extend([..]) -/
def gExt (i : Nat) (fs : Act (List D)) : GS := fun ρ0 => match getL i ρ0 with
  | none => .stuck
  | some _ => gOf fs (fun ds ρ => match getL i ρ with
    | some xs => if xs.length + ds.length ≤ 16000000 then .nx (ρ.set i (some (.l (xs ++ ds)))) else .stuck
    | none => .stuck) ρ0
theorem s_ext {o : Expr} (i : Nat) {apos cpos epos : Pos} (ho : PE X o (tVar i)) (he : PE X e (tF b x fs))
    (hs1 : starEach (e :: []) X.env = (false, eval e X.env) :: starEach [] X.env := by rfl)
    (hbase : attributeBase o "extend" X.env (eval o X.env) = eval o X.env := by rfl)
    (hfew : ((backTo cpos (starEach (e :: []) X.env)).all (fun x => !x.1) && (backToKw cpos (keywordEach [] X.env)).all (fun x => x.1.isSome)
      && decide ((e :: []).length + ([] : List Keyword).length + (if ([] : List Keyword).isEmpty then 0 else 1) < 30)) = true := by rfl)
    (hline : (apos.endLine == cpos.line) = true := by rfl) (hpl : (backTo cpos (starEach [] X.env)).any (·.1) = false := by rfl) (hs : swapsWith (.Call (.Attribute o "extend" apos) [e] [] cpos) none epos.line X.env = pure false := by rfl) :
    PS X (.Expr (.Call (.Attribute o "extend" apos) [e] [] cpos) epos) (tS b x (gExt i fs)) :=
  (ps_expr (pe_bm PySem.F.plainAttrs_list PySem.F.slot_list_extend PySem.F.type_list_extend mt_extend ho (pa_cons he pa_nil hs1) (hbase := hbase) (hfew := hfew) (hline := hline) (hs := hs1) (hplain := hpl)) hs).mono fun E σ H ⟨ρ, a, q⟩ => by
    unfold gExt at q
    cases e0 : getL i ρ with
    | none => rw [e0] at q; exact q.elim
    | some xs0 =>
      rw [e0] at q
      obtain ⟨v, hv, p0, vs0, rfl, hB, hl0, _⟩ := a.cells i _ (getL_some e0)
      refine ⟨_, hv, .inl ⟨rfl, vs0, SqL.of hl0⟩, tF_S a q fun ds ρ1 p us H1 a1 k1 hpB hn hpp i1 q1 => ?_⟩
      cases e1 : getL i ρ1 with
      | none => rw [e1] at q1; exact q1.elim
      | some xs =>
        simp only [e1] at q1
        split at q1
        · rename_i hlen
          obtain ⟨v', hv', p1, vs, rfl, hB1, hl, im⟩ := a1.cells i _ (getL_some e1)
          rw [hv] at hv'; cases hv'
          refine ⟨p0, p, vs, us, rfl, rfl, hl, hpp, by rw [ImL.length im, ImL.length i1]; exact size_line hlen, ?_⟩
          have km : Keep H1 (upd H1 p0 (.lst (vs ++ us))) := Keep.mut hl (fun _ z => by cases z) (fun _ _ z => by cases z)
          exact q1 σ _ (a1.mutate (getL_some e1) trivial hv hB1 hl (fun _ z => by cases z) (fun _ _ z => by cases z) (fun _ z => by cases z) ⟨p0, _, rfl, hB1, upd_same, (ImL.keep km im).append (ImL.keep km i1)⟩ trivial) (k1.trans km)
        · exact q1.elim
/-- x[e], x owned -/
def aIxO (i : Nat) (f : Act D) : Act D := fun ρ0 => match getL i ρ0 with
  | none => .stuck
  | some _ => f.bind (fun d ρ => match getL i ρ, d with
    | some xs, .int k => lift (atI xs k) ρ
    | _, _ => .stuck) ρ0
theorem px_ixO {o : Expr} (i : Nat) (ho : PE X o (tVar i)) (he : PE X e (tD b x f)) (hs : PlainIx e) : PE X (.Subscript o e pos) (tD b x (aIxO i f)) :=
  (pe_ix ix_list ho he hs).mono fun σ H Q ⟨ρ, a, q⟩ => by
    unfold aIxO at q
    cases e0 : getL i ρ with
    | none => rw [e0] at q; exact q.elim
    | some xs0 =>
      rw [e0] at q
      obtain ⟨v, hv, p0, vs0, rfl, hB, hl0, _⟩ := a.cells i _ (getL_some e0)
      refine ⟨_, hv, tD_step (Keep.refl H) a q fun d ρ1 v H1 a1 k1 i1 q1 => ?_⟩
      split at q1
      · rename_i xs k e1
        obtain ⟨y, ey, q2⟩ := lift_go q1
        obtain ⟨v', hv', p1, vs, rfl, hB1, hl, im⟩ := a1.cells i _ (getL_some e1)
        rw [hv] at hv'; cases hv'
        cases i1
        obtain ⟨z, hz, iz⟩ := atI_im im ey
        exact ⟨p0, vs, _, z, rfl, rfl, SqL.of hl, hz, q2 z H1 a1 k1 iz⟩
      · exact q1.elim
/-- len(x), x owned -/
def aLenO (i : Nat) : Act D := fun ρ => match getL i ρ with
  | some xs => .ok (.int xs.length) ρ
  | none => .stuck
theorem px_lenO {o : Expr} (i : Nat) (hg : Gl X "len") (hm : X.mg "len" = none) (ho : PE X o (tVar i)) (he : starEach (o :: []) X.env = (false, eval o X.env) :: starEach [] X.env := by rfl) (hpl : (backTo pos (starEach [] X.env)).any (·.1) = false := by rfl) :
    PE X (.Call (.Name "len" p) [o] [] pos) (tD b x (aLenO i)) :=
  (pe_callB call_len_seq hg hm PySem.boot_len (pa_cons ho pa_nil he) (he := he) (hpl := hpl)).mono fun σ H Q ⟨ρ, a, q⟩ => by
    unfold aLenO at q
    cases e0 : getL i ρ with
    | none => rw [e0] at q; exact q.elim
    | some xs0 =>
      rw [e0] at q
      obtain ⟨v, hv, p0, vs0, rfl, hB, hl0, im⟩ := a.cells i _ (getL_some e0)
      exact ⟨_, hv, p0, vs0, rfl, .inl (SqL.of hl0), q _ H a (Keep.refl H) (by rw [← ImL.length im]; exact .int _)⟩
/-- x[e1] = e2, x owned -/
def gSetI (i : Nat) (f h : Act D) : GS := gOf f fun d ρ1 => match getL i ρ1 with
  | none => .stuck
  | some _ => gOf h (fun k ρ => match getL i ρ, k with
    | some xs, .int k => match ixN xs.length k with
      | some j => .nx (ρ.set i (some (.l (xs.set j d))))
      | none => .stuck
    | _, _ => .stuck) ρ1
theorem s_setI {o : Expr} (i : Nat) {spos : Pos} (ho : PE X o (tVar i)) (hi : PE X e1 (tD b x h)) (he : PE X e2 (tD b x f))
    (ha : ∀ v, assign (.Subscript o e1 spos) X.env v = (do
      let ov ← holding [v] (eval o X.env)
      let iv ← holding [v, ov] (eval e1 X.env)
      standAt spos
      holding [v, ov, iv] (setItem ov iv v)
      release [v, ov, iv] []) := by intro _; rfl)
    (hs : swapsWithSole [.Subscript o e1 spos] e2 pos.line X.env = pure false := by rfl) (hw : swappedStores [.Subscript o e1 spos] e2 X.env = pure none := by rfl)
    (h1 : (assignEach [.Subscript o e1 spos] X.env).map (·.2) = [assign (.Subscript o e1 spos) X.env] := by rfl) : PS X (.Assign [.Subscript o e1 spos] e2 pos) (tS b x (gSetI i f h)) :=
  (ps_asg he (pg_sub ho hi set_list ha) hs hw h1).mono fun E σ H ⟨ρ, a, q⟩ => tD_S a q fun d ρ1 v H1 a1 k1 i1 q1 => by
    cases e0 : getL i ρ1 with
    | none => rw [e0] at q1; exact q1.elim
    | some xs0 =>
      simp only [e0] at q1
      obtain ⟨v0, hv, p0, vs0, rfl, hB, hl0, _⟩ := a1.cells i _ (getL_some e0)
      refine ⟨_, hv, tD_S a1 (q1.keep k1) fun kd ρ2 kv H2 a2 k2 i2 q2 => ?_⟩
      split at q2
      · rename_i xs k e2
        split at q2
        · rename_i j hj
          obtain ⟨v', hv', p1, vs, rfl, hB1, hl, im⟩ := a2.cells i _ (getL_some e2)
          rw [hv] at hv'; cases hv'
          cases i2
          refine ⟨p0, vs, _, j, rfl, rfl, hl, by rw [ImL.length im]; exact hj, ?_⟩
          have km : Keep H2 (upd H2 p0 (.lst (vs.set j v))) := Keep.mut hl (fun _ z => by cases z) (fun _ _ z => by cases z)
          exact q2 σ _ (a2.mutate (getL_some e2) trivial hv hB1 hl (fun _ z => by cases z) (fun _ _ z => by cases z) (fun _ z => by cases z) ⟨p0, _, rfl, hB1, upd_same, (ImL.keep km im).set (Im.keep (k2.trans km) i1)⟩ trivial) (k2.trans km)
        · exact q2.elim
      · exact q2.elim
/-- x[e1] += e2, ints, x owned -/
def rGetL : V → V → Hp → VK → Prop := fun o i H Q => ∃ p xs k v, o = .ref p ∧ i = .int k ∧ H p = some (.lst xs) ∧ 0 ≤ k ∧ xs[k.toNat]? = some v ∧ Q v H
theorem get_list : PGet X rGetL := by
  intro pins s σ H o i ov iv Q I ro ri h
  obtain ⟨p, xs, k, v, rfl, rfl, hp, h0, hv, q⟩ := h
  cases ro
  obtain ⟨t, rfl⟩ := ri
  obtain ⟨its, r, pl, hz⟩ := I.list (SqL.of hp)
  obtain ⟨u, hu, ru⟩ := r.get hv
  have hl : k.toNat < xs.length := (List.getElem?_eq_some_iff.mp hv).1
  have hs : (sizeLine : Nat) < 2 ^ 62 := by rw [sizeLine_eq]; decide
  exact wpAny_getItem_list pl.isList h0 (by omega) (by simpa using hu) ⟨v, H, I, ru, q⟩
def gAugI (i : Nat) (op : Int → Int → Int) (h f : Act D) : GS := fun ρ0 => match getL i ρ0 with
  | none => .stuck
  | some _ => gOf h (fun kd ρ1 => match getL i ρ1, kd with
    | some xs, .int k => if 0 ≤ k then match xs[k.toNat]? with
      | some (.int old) => gOf f (fun d ρ => match getL i ρ, d with
        | some ys, .int y => match ixN ys.length k with
          | some j => .nx (ρ.set i (some (.l (ys.set j (.int (op old y))))))
          | none => .stuck
        | _, _ => .stuck) ρ1
      | _ => .stuck
      else .stuck
    | _, _ => .stuck) ρ0
theorem s_augI {o : Expr} (i : Nat) {tpos : Pos} {oo : Operator} {op : Int → Int → Int} (hop : PIp X oo (ipI op)) (ho : PE X o (tVar i)) (hi : PE X e1 (tD b x h)) (he : PE X e2 (tD b x f))
    (ha : ∀ ov iv new, augStore e1 ov iv new = (do holding [new, ov, iv] (setItem ov iv new); release [new, ov, iv] []; pure .next) := by intros; rfl) :
    PS X (.AugAssign (.Subscript o e1 tpos) oo e2 pos) (tS b x (gAugI i op h f)) :=
  (ps_augS ho hi get_list he hop set_list ha).mono fun E σ H ⟨ρ, a, q⟩ => by
    unfold gAugI at q
    cases e0 : getL i ρ with
    | none => rw [e0] at q; exact q.elim
    | some xs0 =>
      rw [e0] at q
      obtain ⟨v0, hv, p0, vs0, rfl, hB, hl0, _⟩ := a.cells i _ (getL_some e0)
      refine ⟨_, hv, tD_S a q fun kd ρ1 kv H1 a1 k1 i1 q1 => ?_⟩
      split at q1
      · rename_i xs k e1
        split at q1
        · rename_i hk
          split at q1
          · rename_i old hold
            obtain ⟨v', hv', p1, vs, rfl, hB1, hl, im⟩ := a1.cells i _ (getL_some e1)
            rw [hv] at hv'; cases hv'
            cases i1
            obtain ⟨z, hz, iz⟩ := ImL.get' im hold
            cases iz
            refine ⟨p0, vs, k, _, rfl, rfl, hl, hk, hz, tD_S a1 (q1.keep k1) fun d ρ2 v H2 a2 k2 i2 q2 => ?_⟩
            split at q2
            · rename_i ys y e2
              split at q2
              · rename_i j hj
                cases i2
                obtain ⟨v', hv', p2, us, rfl, hB2, hl2, im2⟩ := a2.cells i _ (getL_some e2)
                rw [hv] at hv'; cases hv'
                refine ⟨_, _, rfl, rfl, p0, us, k, j, rfl, rfl, hl2, by rw [ImL.length im2]; exact hj, ?_⟩
                have km : Keep H2 (upd H2 p0 (.lst (us.set j (.int (op old y))))) := Keep.mut hl2 (fun _ z => by cases z) (fun _ _ z => by cases z)
                exact q2 σ _ (a2.mutate (getL_some e2) trivial hv hB2 hl2 (fun _ z => by cases z) (fun _ _ z => by cases z) (fun _ z => by cases z) ⟨p0, _, rfl, hB2, upd_same, (ImL.keep km im2).set (.int _)⟩ trivial) (k2.trans km)
              · exact q2.elim
            · exact q2.elim
          · exact q1.elim
        · exact q1.elim
      · exact q1.elim
/-- x op= e, ints, x a plain name -/
@[reducible] def gAug (i : Nat) (op : Int → Int → Int) (f : Act D) : GS := fun ρ0 => match ρ0[i]? with
  | some (some (.d (.int old))) => gOf f (fun d ρ => match d with
    | .int y => .nx (ρ.set i (some (.d (.int (op old y)))))
    | _ => .stuck) ρ0
  | _ => .stuck
theorem s_aug {i : Nat} {oo : Operator} {op : Int → Int → Int} (hp : b.pin = none ∨ i ≠ 0) (hN : X.N.Nodup) (hi : X.N[i]? = some n) (hx : Loc X.env.scope n) (he : PE X e (tD b x f)) (hop : PIp X oo (ipI op))
    (hf : X.fn n = true ∨ X.env.scope.names.lookup n = some .local := by first | exact .inl rfl | exact .inr rfl | assumption) : PS X (.AugAssign (.Name n pos') oo e pos) (tS b x (gAug i op f)) :=
  (ps_aug hN hi hx he hop hf).mono fun E σ H ⟨ρ, a, q⟩ => by
    unfold gAug at q
    split at q
    · rename_i old hold
      obtain ⟨v, hv, iv⟩ := a.cells i _ hold
      cases (show b.Im H v (.int old) from iv)
      refine ⟨_, hv, tD_S a q fun d ρ1 v H1 a1 k1 i1 q1 => ?_⟩
      split at q1
      · cases i1
        exact ⟨_, _, rfl, rfl, q1 _ H1 (a1.set hp (.int _)) k1⟩
      · exact q1.elim
    · exact q.elim
end
end DL
end
section
set_option Elab.async false
set_option linter.all false
set_option maxRecDepth 100000
set_option maxHeartbeats 2000000
namespace DL
open PySem PySem.Spec PyProof.Rows L2

/-! ### calls of built-ins -/
def dTuple : List D → Option D
  | [.lst xs] => some (.tup xs)
  | [.tup xs] => some (.tup xs)
  | _ => none
abbrev rTuple (K : PySem.W.Frag) : List V → Hp → VK → Prop := fun xs H Q => ∃ p ys, xs = [.ref p] ∧ ((SqL K H p ys ∧ ∀ l, H l = none → Q (.ref l) (upd H l (.tup ys))) ∨ (SqT K H p ys ∧ Q (.ref p) H))
theorem s_tuple (b : BC) : SdN b (rTuple b.K) dTuple := fun H xs ds d Q im e q => by
  unfold dTuple at e
  split at e
  · cases e
    cases im with
    | cons i im =>
      cases im
      obtain ⟨a1, v1, rfl, s1, m1⟩ := rd_lst i
      exact ⟨a1, v1, rfl, .inl ⟨.inl s1, fun p hp => fin_tup q hp m1⟩⟩
  · cases e
    cases im with
    | cons i im =>
      cases im
      obtain ⟨a1, v1, rfl, s1, m1⟩ := sq_tup i
      exact ⟨a1, v1, rfl, .inr ⟨s1, fin_val q (.tup s1 m1)⟩⟩
  · cases e
def dList : List D → Option D
  | [d] => (asS d).map .lst
  | _ => none
abbrev rList (K : PySem.W.Frag) : List V → Hp → VK → Prop := fun xs H Q => ∃ p ys, xs = [.ref p] ∧ (SqL K H p ys ∨ SqT K H p ys) ∧ ∀ l, H l = none → Q (.ref l) (upd H l (.lst ys))
theorem s_list (b : BC) : SdN b (rList b.K) dList := fun H xs ds d Q im e q => by
  unfold dList at e
  split at e
  · obtain ⟨ys, e1, rfl⟩ := Option.map_eq_some_iff.mp e
    cases im with
    | cons i im =>
      cases im
      obtain ⟨a1, v1, rfl, s1, m1⟩ := im_sq i e1
      exact ⟨a1, v1, rfl, s1, fun p hp => fin_lst q hp m1⟩
  · cases e
def dLen : List D → Option D
  | [.lst xs] => some (.int xs.length)
  | [.tup xs] => some (.int xs.length)
  | [.str z] => if z.length ≤ 16000000 then some (.int z.length) else none
  | _ => none
abbrev rLen (K : PySem.W.Frag) : List V → Hp → VK → Prop := fun xs H Q => (∃ p ys, xs = [.ref p] ∧ (SqL K H p ys ∨ SqT K H p ys) ∧ Q (.int ys.length) H) ∨ ∃ z, xs = [.str z] ∧ z.length ≤ sizeLine ∧ Q (.int z.length) H
theorem c_len {X : Cx} : CallR X (.builtin "len") (rLen X.K) := call_len_seq.or call_len_str
theorem s_len (b : BC) : SdN b (rLen b.K) dLen := fun H xs ds d Q im e q => by
  unfold dLen at e
  split at e
  · cases e
    cases im with
    | cons i im =>
      cases im
      obtain ⟨a1, v1, rfl, s1, m1⟩ := rd_lst i
      exact .inl ⟨a1, v1, rfl, .inl (.inl s1), fin_val q (by rw [← ImL.length m1]; exact .int _)⟩
  · cases e
    cases im with
    | cons i im =>
      cases im
      obtain ⟨a1, v1, rfl, s1, m1⟩ := sq_tup i
      exact .inl ⟨a1, v1, rfl, .inr s1, fin_val q (by rw [← ImL.length m1]; exact .int _)⟩
  · split at e
    · rename_i hl
      cases e
      cases im with
      | cons i im =>
        cases im
        cases i
        exact .inr ⟨_, rfl, size_line hl, fin_val q (.int _)⟩
    · cases e
  · cases e
/-- whole numbers out of data -/
def D.ints : List D → Option (List Int)
  | [] => some []
  | .int i :: r => (D.ints r).map (i :: ·)
  | _ :: _ => none
theorem ints_of {b : BC} {H : Hp} : ∀ {xs : List D} {vs : List V} {ns : List Int}, b.ImL H vs xs → D.ints xs = some ns → vs = ns.map V.int ∧ xs = ns.map D.int
  | [], _, _, i, e => by cases i; cases e; exact ⟨rfl, rfl⟩
  | .int j :: xs, _, _, i, e => by
    cases i with
    | cons a r =>
      obtain ⟨ns, e1, rfl⟩ := Option.map_eq_some_iff.mp (show (D.ints xs).map (j :: ·) = _ from e)
      obtain ⟨h1, h2⟩ := ints_of r e1
      cases a
      exact ⟨by rw [h1]; rfl, by rw [h2]; rfl⟩
  | .non :: _, _, _, _, e => by cases e
  | .bl _ :: _, _, _, _, e => by cases e
  | .str _ :: _, _, _, _, e => by cases e
  | .tup _ :: _, _, _, _, e => by cases e
  | .lst _ :: _, _, _, _, e => by cases e
  | .dct _ :: _, _, _, _, e => by cases e
  | .op _ :: _, _, _, _, e => by cases e
theorem ints_map : ∀ ns : List Int, D.ints (ns.map D.int) = some ns
  | [] => rfl
  | n :: ns => by
    show (D.ints (ns.map D.int)).map (n :: ·) = _
    rw [ints_map ns]; rfl
theorem imL_ints {b : BC} {H : Hp} : ∀ ns : List Int, b.ImL H (ns.map V.int) (ns.map D.int)
  | [] => .nil
  | n :: ns => .cons (.int n) (imL_ints ns)
def dSumL : List D → Option D
  | [.lst xs] => (D.ints xs).map fun ns => .int ns.sum
  | _ => none
theorem s_sumL (b : BC) : SdN b (rSum b.K) dSumL := fun H xs ds d Q im e q => by
  unfold dSumL at e
  split at e
  · obtain ⟨ns, e1, rfl⟩ := Option.map_eq_some_iff.mp e
    cases im with
    | cons i im =>
      cases im
      obtain ⟨a1, v1, rfl, s1, m1⟩ := rd_lst i
      obtain ⟨rfl, _⟩ := ints_of m1 e1
      exact ⟨a1, ns, rfl, .inl s1, fin_val q (.int _)⟩
  · cases e
/-- sorted, of whole numbers -/
def isort : List Int → List Int := fun l => l.foldr (fun x acc => acc.takeWhile (fun y => decide (y < x)) ++ x :: acc.dropWhile (fun y => decide (y < x))) []
theorem isort_perm : ∀ l : List Int, (isort l).Perm l
  | [] => .refl _
  | x :: l => by
    show ((isort l).takeWhile _ ++ x :: (isort l).dropWhile _).Perm (x :: l)
    refine List.perm_middle.trans (List.Perm.cons x ?_)
    rw [List.takeWhile_append_dropWhile]
    exact isort_perm l
theorem isort_sorted : ∀ l : List Int, (isort l).Pairwise (· ≤ ·)
  | [] => List.Pairwise.nil
  | x :: l => by
    have ih := isort_sorted l
    show ((isort l).takeWhile _ ++ x :: (isort l).dropWhile _).Pairwise (· ≤ ·)
    generalize isort l = m at ih
    have e : m.takeWhile (fun y => decide (y < x)) ++ m.dropWhile (fun y => decide (y < x)) = m := List.takeWhile_append_dropWhile
    have hp : (m.takeWhile (fun y => decide (y < x)) ++ m.dropWhile (fun y => decide (y < x))).Pairwise (· ≤ ·) := by rw [e]; exact ih
    rw [List.pairwise_append] at hp ⊢
    obtain ⟨h1, h2, h3⟩ := hp
    have ht : ∀ y ∈ m.takeWhile (fun y => decide (y < x)), y < x := fun y hy => by
      have := List.all_takeWhile (p := fun y => decide (y < x)) (l := m)
      rw [List.all_eq_true] at this
      exact of_decide_eq_true (this y hy)
    have hd : ∀ y ∈ m.dropWhile (fun y => decide (y < x)), x ≤ y := fun y hy => by
      cases ed : m.dropWhile (fun y => decide (y < x)) with
      | nil => rw [ed] at hy; cases hy
      | cons z r =>
        rw [ed] at hy h2
        have hz : ¬ z < x := by
          have := List.head_dropWhile_not (l := m) (fun y => decide (y < x)) (by rw [ed]; simp)
          simp only [ed, List.head_cons] at this
          simpa using this
        rcases List.mem_cons.mp hy with rfl | hr
        · omega
        · have := (List.pairwise_cons.mp h2).1 y hr
          omega
    refine ⟨h1, List.pairwise_cons.mpr ⟨fun y hy => hd y hy, h2⟩, fun y hy z hz => ?_⟩
    rcases List.mem_cons.mp hz with rfl | hz
    · exact Int.le_of_lt (ht y hy)
    · exact h3 y hy z hz
theorem sorted_unique : ∀ {l m : List Int}, l.Perm m → l.Pairwise (· ≤ ·) → m.Pairwise (· ≤ ·) → l = m
  | [], m, p, _, _ => (List.nil_perm.mp p).symm
  | x :: l, m, p, h1, h2 => by
    cases m with
    | nil => exact absurd (List.perm_nil.mp p) (by simp)
    | cons y m =>
      have hx : x ∈ y :: m := p.subset List.mem_cons_self
      have hy : y ∈ x :: l := p.symm.subset List.mem_cons_self
      have e : x = y := by
        rcases List.mem_cons.mp hx with e | hm
        · exact e
        · rcases List.mem_cons.mp hy with e | hl
          · exact e.symm
          · have a := (List.pairwise_cons.mp h1).1 y hl
            have c := (List.pairwise_cons.mp h2).1 x hm
            omega
      subst e
      rw [sorted_unique (List.Perm.cons_inv p) (List.pairwise_cons.mp h1).2 (List.pairwise_cons.mp h2).2]
def dSortI : List D → Option D
  | [.lst xs] => (D.ints xs).map fun ns => .lst ((isort ns).map .int)
  | _ => none
theorem s_sortI (b : BC) : SdN b (rSortedI b.K) dSortI := fun H xs ds d Q im e q => by
  unfold dSortI at e
  split at e
  · obtain ⟨ns, e1, rfl⟩ := Option.map_eq_some_iff.mp e
    cases im with
    | cons i im =>
      cases im
      obtain ⟨a1, v1, rfl, s1, m1⟩ := rd_lst i
      obtain ⟨rfl, _⟩ := ints_of m1 e1
      exact ⟨a1, ns, rfl, .inl s1, fun ns' p hp hs hn => fin_lst (xs := (isort ns).map .int) q hn (by
        rw [sorted_unique (hp.trans (isort_perm ns).symm) hs (isort_sorted ns)]
        exact imL_ints _)⟩
  · cases e
def dMin2 : List D → Option D
  | [.int i, .int j] => some (.int (if j < i then j else i))
  | _ => none
def dMax2 : List D → Option D
  | [.int i, .int j] => some (.int (if j > i then j else i))
  | _ => none
theorem s_min2 (b : BC) : SdN b (fun xs H Q => ∃ i j, xs = [.int i, .int j] ∧ Q (.int (if j < i then j else i)) H) dMin2 := fun H xs ds d Q im e q => by
  unfold dMin2 at e
  split at e
  · cases e
    cases im with
    | cons i im =>
      cases im with
      | cons j im => cases im; cases i; cases j; exact ⟨_, _, rfl, fin_val q (.int _)⟩
  · cases e
theorem s_max2 (b : BC) : SdN b (fun xs H Q => ∃ i j, xs = [.int i, .int j] ∧ Q (.int (if j > i then j else i)) H) dMax2 := fun H xs ds d Q im e q => by
  unfold dMax2 at e
  split at e
  · cases e
    cases im with
    | cons i im =>
      cases im with
      | cons j im => cases im; cases i; cases j; exact ⟨_, _, rfl, fin_val q (.int _)⟩
  · cases e
def dInt : List D → Option D
  | [.int i] => some (.int i)
  | [.bl k] => some (.int (if k then 1 else 0))
  | _ => none
theorem s_int (b : BC) : SdN b (fun xs H Q => (∃ i, xs = [.int i] ∧ Q (.int i) H) ∨ ∃ k, xs = [.bl k] ∧ Q (.int (if k then 1 else 0)) H) dInt := fun H xs ds d Q im e q => by
  unfold dInt at e
  split at e
  · cases e
    cases im with
    | cons i im => cases im; cases i; exact .inl ⟨_, rfl, fin_val q (.int _)⟩
  · cases e
    cases im with
    | cons i im => cases im; cases i; exact .inr ⟨_, rfl, fin_val q (.int _)⟩
  · cases e
/-- isinstance(x, T), T a built-in class -/
def D.ty : D → Option String
  | .non => some "NoneType"
  | .bl _ => some "bool"
  | .int _ => some "int"
  | .str _ => some "str"
  | .tup _ => some "tuple"
  | .lst _ => some "list"
  | _ => none
def isiB : String → String → Option Bool := fun t c => L2.kitB t c
theorem tyX_of {b : BC} {H : Hp} {v : V} {d : D} {t : String} (i : b.Im H v d) (e : d.ty = some t) : TyX b.K H v (.type t) := by
  cases i with
  | non => cases e; exact .base .non
  | bl _ => cases e; exact .base (.bl _)
  | int _ => cases e; exact .base (.int _)
  | str _ => cases e; exact .base (.str _)
  | tup h _ =>
    cases e
    rcases h with (h | ⟨o, h⟩) | ⟨o, its, n, h, hc, _⟩
    · exact .base (.tup h)
    · exact .fTuple h
    · exact .kTuple h hc
  | lst h _ => cases e; obtain ⟨o, h⟩ := h; exact .base (.frz h)
  | dct _ _ _ _ => cases e
  | op _ => cases e
def dIsi : List D → Option D
  | [d, .op (.ty c)] => match d.ty with
    | some t => (L2.kitB t c).map .bl
    | none => none
  | _ => none
theorem s_isi (b : BC) : SdN b (rIsi b.K) dIsi := fun H xs ds d Q im e q => by
  unfold dIsi at e
  split at e
  · split at e
    · rename_i t ht
      obtain ⟨k, hk, rfl⟩ := Option.map_eq_some_iff.mp e
      cases im with
      | cons i im =>
        cases im with
        | cons j im =>
          cases im
          cases j
          exact ⟨_, _, _, _, k, rfl, .ty _, tyX_of i ht, kit_ty hk, fin_val q (.bl _)⟩
    · cases e
  · cases e
/-- list(range(..)), tuple(range(..)) -/
theorem rgV_im {b : BC} {H : Hp} : ∀ (n : Nat) (a c : Int), (c - a).toNat = n → b.ImL H (rgV a c) (upTo a n) := fun n a c e => by
  unfold rgV
  rw [e]
  clear e
  have : ∀ (m : Nat) (a : Int), b.ImL H ((List.range m).map fun i => V.int (a + (i : Nat))) (upTo a m) := fun m => by
    induction m with
    | zero => exact fun _ => .nil
    | succ m ih =>
      intro a
      rw [List.range_succ_eq_map, List.map_cons, List.map_map, upTo]
      refine .cons (by rw [show a + ((0 : Nat) : Int) = a by omega]; exact .int a) ?_
      have h := ih (a + 1)
      have e : (List.range m).map ((fun i : Nat => V.int (a + (i : Nat))) ∘ Nat.succ) = (List.range m).map fun i => V.int (a + 1 + (i : Nat)) := by
        apply List.map_congr_left
        intro i _
        show V.int (a + ((i + 1 : Nat) : Int)) = V.int (a + 1 + (i : Nat))
        congr 1
        omega
      rw [e]
      exact h
  exact this n a
section
variable {X : Cx} {b : BC} {x : XC} {e e1 : Expr} {pos p p2 pos2 : Pos} {f h : Act D}
def dRg1 : D → Option (List D)
  | .int n => if 0 ≤ n ∧ n ≤ 1000000 then some (upTo 0 n.toNat) else none
  | _ => none
theorem px_listRg1F (hc : X.calm = true) (hg : Gl X "list") (hm : X.mg "list" = none) (hg2 : Gl X "range") (hm2 : X.mg "range" = none) (he : PE X e (tD b x f)) (na : starEach [e] X.env = (false, eval e X.env) :: starEach [] X.env := by rfl)
    (na2 : starEach [.Call (.Name "range" p2) [e] [] pos2] X.env = (false, eval (.Call (.Name "range" p2) [e] [] pos2) X.env) :: starEach [] X.env := by rfl) :
    PE X (.Call (.Name "list" p) [.Call (.Name "range" p2) [e] [] pos2] [] pos) (tF b x (f.bind fun d => lift (dRg1 d))) :=
  (pe_listRg hc hg hm (prg_1 hg2 hm2 he na) na2).mono fun σ H Q ⟨ρ, a, q⟩ => tD_step (Keep.refl H) a q fun d ρ1 v H1 a1 k1 i1 q1 => by
    obtain ⟨xs, e, q2⟩ := lift_go q1
    unfold dRg1 at e
    split at e
    · split at e
      · rename_i n hn
        cases e; cases i1
        refine ⟨_, rfl, RgOk.of_le (by omega) (by omega) (by omega) (by omega), fun p hp => ?_⟩
        have u : Up b.tb H1 (upd H1 p (.lst (rgV 0 n))) := Up.new hp
        exact q2 p _ _ (a1.up u) (k1.trans u.toKeep) (a1.bNone hp) (a1.notNew hp) upd_same (ImL.keep u.toKeep (rgV_im _ 0 _ (by omega)))
      · cases e
    · cases e
theorem px_tupRg1 (hc : X.calm = true) (hg : Gl X "tuple") (hm : X.mg "tuple" = none) (hg2 : Gl X "range") (hm2 : X.mg "range" = none) (he : PE X e (tD b x f)) (na : starEach [e] X.env = (false, eval e X.env) :: starEach [] X.env := by rfl)
    (na2 : starEach [.Call (.Name "range" p2) [e] [] pos2] X.env = (false, eval (.Call (.Name "range" p2) [e] [] pos2) X.env) :: starEach [] X.env := by rfl) :
    PE X (.Call (.Name "tuple" p) [.Call (.Name "range" p2) [e] [] pos2] [] pos) (tD b x (f.bind fun d => lift ((dRg1 d).map .tup))) :=
  (pe_frz (pe_tupRg hc hg hm (prg_1 hg2 hm2 he na) na2)).mono fun σ H Q ⟨ρ, a, q⟩ => tD_step (Keep.refl H) a q fun d ρ1 v H1 a1 k1 i1 q1 => by
    obtain ⟨y, e, q2⟩ := lift_go q1
    obtain ⟨xs, e, rfl⟩ := Option.map_eq_some_iff.mp e
    unfold dRg1 at e
    split at e
    · split at e
      · rename_i hn
        cases e; cases i1
        exact ⟨_, rfl, RgOk.of_le (by omega) (by omega) (by omega) (by omega), fun p hp => fin_tup (fun v H2 u i => q2 v H2 (a1.up u) (k1.trans u.toKeep) i) hp (rgV_im _ 0 _ (by omega))⟩
      · cases e
    · cases e
end
end DL
end
section
set_option Elab.async false
set_option linter.all false
set_option maxRecDepth 100000
set_option maxHeartbeats 2000000
namespace DL
open PySem PySem.Spec PyProof.Rows L2
/-! ### truth -/
def D.tru : D → Option Bool
  | .non => some false
  | .bl k => some k
  | .int i => some (i != 0)
  | .lst xs => some (!xs.isEmpty)
  | .tup xs => some (!xs.isEmpty)
  | _ => none
@[reducible] def cT (f : Act D) : Act Bool := f.bind fun x => lift (D.tru x)
theorem imL_emp {b : BC} {H : Hp} {vs : List V} {xs : List D} (i : b.ImL H vs xs) : vs.isEmpty = xs.isEmpty := by
  cases i <;> rfl
theorem tru_of {b : BC} {H : Hp} {v : V} {d : D} {k : Bool} (i : b.Im H v d) (e : d.tru = some k) : TruV b.K v H k := by
  cases i with
  | non => cases e; rfl
  | bl _ => cases e; rfl
  | int _ => cases e; rfl
  | str _ => cases e
  | tup h r => cases e; exact .inr (.inl ⟨_, h, by rw [imL_emp r]⟩)
  | lst h r => cases e; obtain ⟨o, h⟩ := h; exact .inl ⟨_, .inl (.inr ⟨o, h⟩), by rw [imL_emp r]⟩
  | dct _ _ _ _ => cases e
  | op _ => cases e
section
variable {X : Cx} {b : BC} {x : XC} {e : Expr} {f : Act D}
theorem pt_tru (hK : X.K = b.K) (h : PE X e (tD b x f)) (he : ∀ whole, isTrue e X.env whole = (do let v ← whole; standAt e.pos; holding [v] (truthy v)) := by intro _; rfl) : PT X e (tT b x (cT f)) :=
  (pt_truth h he).mono fun σ H Q ⟨ρ, a, q⟩ => tD_step (Keep.refl H) a q fun d ρ1 v H1 a1 k1 i1 q1 => by
    obtain ⟨k, e, q2⟩ := lift_go q1
    exact ⟨k, by rw [hK]; exact tru_of i1 e, q2 H1 a1 k1⟩

/-- short names -/
@[reducible] def vAnd (f g : Act D) : Act D := f.bind fun y => (lift (asB y)).bind fun k => if k = true then g else aC (.bl false)
@[reducible] def vOr (f g : Act D) : Act D := f.bind fun y => (lift (asB y)).bind fun k => if k = true then aC (.bl true) else g
@[reducible] def vNot (f : Act D) : Act D := f.bind fun y => (lift (asB y)).bind fun k => aC (.bl (!k))
@[reducible] def fLst (fs : Act (List D)) : Act (List D) := fs.bind fun ds => lift (if ds.length ≤ 16000000 then some ds else none)
@[reducible] def fCat (f h : Act D) : Act (List D) := f.bind fun d1 => h.bind fun d2 => lift (dCatF d1 d2)
@[reducible] def fRg1 (f : Act D) : Act (List D) := f.bind fun d => lift (dRg1 d)
@[reducible] def tRg1 (f : Act D) : Act D := f.bind fun d => lift ((dRg1 d).map .tup)
@[reducible] def gFrz (i : Nat) (g : GS) : GS := fun ρ => g (frzD i ρ)
/-- a < b < c -/
@[reducible] def aChain (p q : D → D → Option D) (f g h : Act D) : Act D := f.bind fun x => g.bind fun y => (lift (p x y)).bind fun z => (lift (asB z)).bind fun k => if k = true then h.bind fun w => lift (q y w) else aC (.bl false)
variable {a c : Expr} {g h : Act D} {pos : Pos}
theorem px_chain {o o' : CmpOp} {r r' : R2} {p q : D → D → Option D} (ho : OpR X (compareOp o) r) (s1 : Sd2 b r p) (hb : ∀ d1 d2 d, p d1 d2 = some d → ∃ k, d = .bl k) (ho' : OpR X (compareOp o') r') (s2 : Sd2 b r' q) (h1 : PE X e (tD b x f)) (h2 : PE X a (tD b x g)) (h3 : PE X c (tD b x h))
    (hr : ∀ H x y dx dy d (Q : VK), b.Im H x dx → b.Im H y dy → p dx dy = some d → (∀ v H', Up b.tb H H' → b.Im H' v d → Q v H') → r x y H Q)
    (hm : lastMarks [o, o'] [a, c] = false := by with_unfolding_all rfl) : PE X (.Compare e [o, o'] [a, c] pos) (tD b x (aChain p q f g h)) :=
  (pe_frz (pe_chain ho ho' h1 h2 h3 hm)).mono fun σ H Q ⟨ρ, a0, q0⟩ => tD_step (Keep.refl H) a0 q0 fun d1 ρ1 v1 H1 a1 k1 i1 q1 => tD_step k1 a1 q1 fun d2 ρ2 v2 H2 a2 k2 i2 q2 => by
    obtain ⟨z, ez, q3⟩ := lift_go q2.bind
    obtain ⟨k, ek, q4⟩ := lift_go q3.bind
    refine hr H2 v1 v2 d1 d2 z _ (Im.keep k2 i1) i2 ez fun v H3 u i => ?_
    obtain ⟨k', rfl⟩ := hb _ _ _ ez
    cases ek
    cases i
    refine ⟨_, rfl, ?_⟩
    have kk := (k1.trans k2).trans u.toKeep
    cases k with
    | true =>
      refine tD_step (x := x) kk (a2.up u) q4 fun d3 ρ3 v3 H4 a3 k3 i3 q5 => ?_
      obtain ⟨d, e5, q6⟩ := lift_go q5
      exact s2 H4 v2 v3 d2 d3 d Q (Im.keep k3 (Im.keep u.toKeep i2)) i3 e5 fun v H5 u5 i5 => q6 v H5 (a3.up u5) ((kk.trans k3).trans u5.toKeep) i5
    | false => exact .inl (q4 _ H3 (a2.up u) kk (.bl false))
theorem r_cmpI {p : Int → Int → Bool} : ∀ H x y dx dy d (Q : VK), b.Im H x dx → b.Im H y dy → dCmpI p dx dy = some d → (∀ v H', Up b.tb H H' → b.Im H' v d → Q v H') → rI0 (fun i j => .bl (p i j)) x y H Q := fun H x y dx dy d Q ix iy e q => by
  unfold dCmpI at e
  split at e
  · cases e; cases ix; cases iy; exact ⟨_, _, rfl, rfl, q _ H (Up.refl _ _) (.bl _)⟩
  · cases e
/-- a, b = e1, e2 -/
@[reducible] def gPar (i j : Nat) (fs : Act (List D)) : GS := gOf fs fun ds ρ => match ds with
  | [d, e] => .nx ((ρ.set i (some (.d d))).set j (some (.d e)))
  | _ => .stuck
theorem s_par {i j : Nat} {n m : Str} {px py pt : Pos} {kt k2 : Nat} {pt2 : Pos} {fs : Act (List D)} (hpi : b.pin = none ∨ i ≠ 0) (hpj : b.pin = none ∨ j ≠ 0) (hc : X.calm = true) (hN : X.N.Nodup) (hi : X.N[i]? = some n) (hj : X.N[j]? = some m) (hij : i ≠ j)
    (hli : X.env.scope.names.lookup n = some .local) (hlj : X.env.scope.names.lookup m = some .local) (ha : PA X [a, c] (tL b x fs))
    (base : ∀ ta, PA X [a, c] ta → PS X (.Assign [.Tuple [.Name n px, .Name m py] kt pt] (.Tuple [a, c] k2 pt2) pos) (tPar i j ta)) :
    PS X (.Assign [.Tuple [.Name n px, .Name m py] kt pt] (.Tuple [a, c] k2 pt2) pos) (tS b x (gPar i j fs)) :=
  (base _ ha).mono fun E σ H ⟨ρ, a0, q⟩ => by
    refine ⟨ρ, a0, ?_⟩
    rcases gOf_go (σ := σ) q with ⟨ds, ρ1, e, q1⟩ | ⟨e', ρ1, e2, ho, q1⟩
    · rw [e]
      intro vs H1 a1 k1 im
      split at q1
      · cases im with
        | cons i1 im =>
          cases im with
          | cons i2 im =>
            cases im
            exact ⟨_, _, rfl, q1 _ H1 ((a1.set hpi i1).set hpj i2) k1⟩
      · exact q1.elim
    · rw [e2]
      exact ⟨ho, fun cls dx H' a1 k1 z => q1 cls dx σ H' a1 k1 z⟩
theorem ip_mulI : PIp X .Mult (rI CMul fun i j => .int (i * j)) := fun pins s σ H x y v u Q I rx ry h => iop_mul pins s σ H x y v u Q I rx ry h
@[reducible] def gAugM (i : Nat) (f : Act D) : GS := fun ρ0 => match ρ0[i]? with
  | some (some (.d (.int old))) => gOf f (fun d ρ => match d with
    | .int y => if -(2 ^ 64) < old ∧ old < 2 ^ 64 then .nx (ρ.set i (some (.d (.int (old * y))))) else .stuck
    | _ => .stuck) ρ0
  | _ => .stuck
theorem s_augM {i : Nat} {n : Str} {pos' : Pos} (hp : b.pin = none ∨ i ≠ 0) (hN : X.N.Nodup) (hi : X.N[i]? = some n) (hx : Loc X.env.scope n) (he : PE X e (tD b x f))
    (hf : X.fn n = true ∨ X.env.scope.names.lookup n = some .local := by first | exact .inl rfl | exact .inr rfl | assumption) : PS X (.AugAssign (.Name n pos') .Mult e pos) (tS b x (gAugM i f)) :=
  (ps_aug hN hi hx he ip_mulI hf).mono fun E σ H ⟨ρ, a, q⟩ => by
    unfold gAugM at q
    split at q
    · rename_i old hold
      obtain ⟨v, hv, iv⟩ := a.cells i _ hold
      cases (show b.Im H v (.int old) from iv)
      refine ⟨_, hv, tD_S a q fun d ρ1 v H1 a1 k1 i1 q1 => ?_⟩
      split at q1
      · split at q1
        · rename_i hl
          cases i1
          exact ⟨_, _, rfl, rfl, .inl ⟨by omega, by omega⟩, q1 _ H1 (a1.set hp (.int _)) k1⟩
        · exact q1.elim
      · exact q1.elim
    · exact q.elim
end
end DL
end
section
set_option Elab.async false
set_option linter.all false
set_option maxRecDepth 100000
set_option maxHeartbeats 2000000
namespace DL
open PySem PySem.Spec PyProof.Rows L2
/-! ### quiet steps: what a generator expression's element may do -/
theorem kp_refl (s : Shared) : Keeps s s := ⟨s.heap, s.toks, rfl, fun _ _ e => e⟩
theorem kp_tok (s : Shared) (k : Nat) : Keeps s { s with toks := k } := ⟨s.heap, k, rfl, fun _ _ e => e⟩
theorem kp_trans {s s1 s2 : Shared} (a : Keeps s s1) (b : Keeps s1 s2) : Keeps s s2 := by
  obtain ⟨h1, k1, rfl, g1⟩ := a
  obtain ⟨h2, k2, rfl, g2⟩ := b
  exact ⟨h2, k2, rfl, fun c o e => g2 c o (g1 c o e)⟩
theorem kp_get {s s1 : Shared} (a : Keeps s s1) : ∀ b o, s.heap.get? b = some o → s1.heap.get? b = some o := by
  obtain ⟨h1, k1, rfl, g1⟩ := a
  exact g1
theorem md_keeps {K : PySem.W.Frag} {mg : Str → Option Value} {h h' : Heap} (m : Mod K mg h) (k : ∀ b o, h.get? b = some o → h'.get? b = some o) : Mod K mg h' :=
  ⟨m.kin.keeps k, m.glob.keeps k, let ⟨mb, a, c⟩ := m.blt; ⟨mb, a.keeps k, c⟩, m.nolimit.keeps k⟩
structure Qx (K : PySem.W.Frag) (mg : Str → Option Value) (env : Env) (m : Str → Option Value) (s : Shared) : Prop where
  kind : env.scope.kind = .function
  gl : env.globals = mainGlobals
  bl : env.builtins = builtinsNs
  md : Mod K mg s.heap
  ns : s.heap.Ns env.locals m
section
variable {P : Program} {w : World} {K : PySem.W.Frag} {mg : Str → Option Value} {A : Around} {E : Value → Shared → Prop} {env : Env} {m : Str → Option Value} {s s' : Shared} {Q : Value → Shared → Prop} {x : Str} {p p1 p2 p3 p4 : Pos}
theorem Qx.keeps (q : Qx K mg env m s) (k : Keeps s s') : Qx K mg env m s' := ⟨q.kind, q.gl, q.bl, md_keeps q.md (kp_get k), q.ns.keeps (kp_get k)⟩
theorem Qx.loc {u : Value} (q : Qx K mg env m s) (hl : env.kindOf x = some .local) (hx : m x = some u) (h : Q u s) (hd : (x == ("__debug__" : Str)) = false := by decide) : wpAny (model P w) A (eval (.Name x p) env) Q E s :=
  wpAny_Name (wpAny_loadName_local q.kind hl q.ns hx h) hd
theorem Qx.glob {u : Value} (q : Qx K mg env m s) (hl : env.kindOf x = some .globalImplicit) (hx : mg x = some u) (h : Q u s) (hd : (x == ("__debug__" : Str)) = false := by decide) : wpAny (model P w) A (eval (.Name x p) env) Q E s :=
  Calls.Name_function_global q.kind hl (Calls.loadGlobal_global (by rw [q.gl]; exact q.md.glob) hx h) hd
theorem Qx.blt {u : Value} (q : Qx K mg env m s) (hl : env.kindOf x = some .globalImplicit) (hx : mg x = none) (hv : bootBuiltins x = some u) (h : Q u s) (hn : x ≠ "__name__" := by decide) (hd : (x == ("__debug__" : Str)) = false := by decide) : wpAny (model P w) A (eval (.Name x p) env) Q E s := by
  obtain ⟨mb, h1, h2⟩ := q.md.blt
  exact Calls.Name_function_global q.kind hl (Calls.loadGlobal_builtin (by rw [q.gl]; exact q.md.glob) hx (by rw [q.bl]; exact h1) ((h2 x hn).trans hv) h) hd
theorem Qx.isi {T : Str} {t : Value} {u : Value} {c : String} {k : Bool} {PH : Heap → Prop} (q : Qx K mg env m s) (hl : env.kindOf x = some .local) (hx : m x = some u) (hg1 : env.kindOf "isinstance" = some .globalImplicit) (hg2 : env.kindOf T = some .globalImplicit)
    (h1 : mg "isinstance" = none) (h2 : mg T = none) (bT : bootBuiltins T = some (.type c)) (Z : PySem.W.KitX K u t PH) (hp : PH s.heap) (e : PySem.W.kitOne K t (.type c) = some k) (ho : u ≠ .builtin "__main__.__loader__#opaque") (h : ∀ tk, Q (.bool k) { s with toks := tk })
    (hT : T ≠ "__name__" := by decide) (hdT : (T == ("__debug__" : Str)) = false := by decide) (hd : (x == ("__debug__" : Str)) = false := by decide) :
    wpAny (model P w) A (eval (.Call (.Name "isinstance" p1) [.Name x p2, .Name T p3] [] p4) env) Q E s := by
  refine wpAny_Call_Name_kw (q.blt hg1 h1 (by decide +kernel : bootBuiltins "isinstance" = some (.builtin "isinstance")) ?_)
  refine PyProof.Rows.callWith_builtin1 ?_ (by rfl) (by rfl)
  show wpAny _ _ (spliced ((false, eval (.Name x p2) env) :: (false, eval (.Name T p3) env) :: [])) _ _ s
  refine Calls.spliced_cons (q.loc hl hx ?_ hd)
  refine Calls.spliced_cons (q.blt hg2 h2 bT ?_ hT hdT)
  refine Calls.spliced_nil ?_
  exact PySem.W.kia_one Z q.md.kin hp e ho h
/-- what is_number says of a datum -/
def isN (d : D) (lo hi : Int) : Bool := match d with
  | .int i => decide (lo ≤ i) && decide (i ≤ hi)
  | _ => false
/-- what a value must be for it -/
structure Kit (K : PySem.W.Frag) (u : Value) (d : D) (h : Heap) : Prop where
  ex : ∃ (t : String) (PH : Heap → Prop), d.ty = some t ∧ PySem.W.KitX K u (.type t) PH ∧ (∀ h', (∀ q o, h.get? q = some o → h'.get? q = some o) → PH h') ∧ u ≠ .builtin "__main__.__loader__#opaque"
  int : ∀ i, d = .int i → ∃ t, u = .int i t
theorem Kit.keeps {K : PySem.W.Frag} {u : Value} {d : D} {h h' : Heap} (z : Kit K u d h) (k : ∀ q o, h.get? q = some o → h'.get? q = some o) : Kit K u d h' :=
  ⟨let ⟨t, PH, a, b, c, e⟩ := z.ex; ⟨t, PH, a, b, fun h2 k2 => c h2 fun q o w => k2 q o (k q o w), e⟩, z.int⟩
structure NumSc (sc : Scope) : Prop where
  kind : sc.kind = .function
  co : sc.isCoroutine = false
  gen : sc.isGenerator = false
  cell : ∀ y ∈ sc.names, y.2 ≠ .cell
  v : sc.names.lookup ("value" : Str) = some .local
  l : sc.names.lookup ("low" : Str) = some .local
  h : sc.names.lookup ("high" : Str) = some .local
  i1 : sc.names.lookup ("isinstance" : Str) = some .globalImplicit
  i2 : sc.names.lookup ("int" : Str) = some .globalImplicit
  i3 : sc.names.lookup ("bool" : Str) = some .globalImplicit
structure NumTx (mg : Str → Option Value) : Prop where
  i1 : mg "isinstance" = none
  i2 : mg "int" = none
  i3 : mg "bool" = none
theorem isN_int {d : D} {t : String} (e : d.ty = some t) (h : L2.kitB t "int" = some false) (lo hi : Int) : isN d lo hi = false := by
  cases d with
  | int i => cases e; exact absurd h (by decide +kernel)
  | _ => rfl
theorem kitB_int (d : D) (t : String) (e : d.ty = some t) : ∃ k, L2.kitB t "int" = some k ∧ (k = true → (∃ i, d = .int i) ∨ (∃ z, d = .bl z)) := by
  cases d with
  | int i => cases e; exact ⟨true, by decide +kernel, fun _ => .inl ⟨i, rfl⟩⟩
  | bl z => cases e; exact ⟨true, by decide +kernel, fun _ => .inr ⟨z, rfl⟩⟩
  | non => cases e; exact ⟨false, by decide +kernel, fun z => nomatch z⟩
  | str _ => cases e; exact ⟨false, by decide +kernel, fun z => nomatch z⟩
  | tup _ => cases e; exact ⟨false, by decide +kernel, fun z => nomatch z⟩
  | lst _ => cases e; exact ⟨false, by decide +kernel, fun z => nomatch z⟩
  | dct _ => cases e
  | op _ => cases e
variable {sc : Scope}
abbrev numBody (q1 q2 q3 q4 q5 q6 q7 q8 q9 r1 r2 r3 r4 r5 r6 : Pos) : List Stmt := [.Return (some (.BoolOp .And [.Call (.Name "isinstance" q1) [.Name "value" q2, .Name "int" q3] [] q4, .UnaryOp .Not (.Call (.Name "isinstance" q5) [.Name "value" q6, .Name "bool" q7] [] q8) q9,
    .Compare (.Name "low" r1) [.LtE, .LtE] [.Name "value" r2, .Name "high" r3] r4] r5)) r6]
theorem num_body {u : Value} {d : D} {lo hi : Int} {t1 t2 : Tok} {q1 q2 q3 q4 q5 q6 q7 q8 q9 r1 r2 r3 r4 r5 r6 : Pos} (T : NumTx mg) (S : NumSc env.scope) (q : Qx K mg env m s) (hv : m "value" = some u) (hlo : m "low" = some (.int lo t1)) (hhi : m "high" = some (.int hi t2)) (Z : Kit K u d s.heap) :
    wpAny (model P w) A (execs (numBody q1 q2 q3 q4 q5 q6 q7 q8 q9 r1 r2 r3 r4 r5 r6) env) (fun fl s' => fl = .ret (.bool (isN d lo hi)) ∧ Keeps s s') E s := by
  obtain ⟨t, PH, ht, zk, hp', ho⟩ := Z.ex
  have hp := hp' _ (fun _ _ e => e)
  obtain ⟨k, hk, hk2⟩ := kitB_int d t ht
  refine wpAny_execs_cons (wpAny_Return_some ?_)
  refine BoolOp_and (q.isi (x := "value") (T := "int") S.v hv S.i1 S.i2 T.i1 T.i2 (by decide +kernel : bootBuiltins "int" = some (.type "int")) zk hp (kit_ty hk) ho fun tk1 => ?_)
  refine wpAny_truthy_bool ?_
  cases k with
  | false => exact ⟨by rw [isN_int ht hk], kp_tok _ _⟩
  | true =>
    have q2 := q.keeps (kp_tok s tk1)
    rcases hk2 rfl with ⟨i, rfl⟩ | ⟨z, rfl⟩
    · cases ht
      obtain ⟨ti, rfl⟩ := Z.int i rfl
      refine BoolOp_and (UnaryOp_ (q2.isi (x := "value") (T := "bool") S.v hv S.i1 S.i3 T.i1 T.i3 (by decide +kernel : bootBuiltins "bool" = some (.type "bool")) zk hp (kit_ty (by decide +kernel : L2.kitB "int" "bool" = some false)) ho fun tk2 => ?_))
      refine not_of (wpAny_truthy_bool ?_)
      refine wpAny_truthy_bool ?_
      have q3 := q.keeps (kp_tok s tk2)
      refine BoolOp_one ?_
      refine Compare_chain (q3.loc (x := "low") S.l hlo ?_) (by with_unfolding_all rfl)
      refine chain_link (q3.loc (x := "value") S.v hv ?_)
      refine le_int ?_
      refine wpAny_truthy_bool ?_
      by_cases c : lo ≤ i
      · rw [decide_eq_true c]
        refine ite_tt (chain_last (q3.loc (x := "high") S.h hhi ?_))
        refine le_int ⟨?_, kp_tok _ _⟩
        show _ = Flow.ret (Value.bool (decide (lo ≤ i) && decide (i ≤ hi)))
        rw [decide_eq_true c]; rfl
      · rw [decide_eq_false c]
        refine ite_ff ⟨?_, kp_tok _ _⟩
        show _ = Flow.ret (Value.bool (decide (lo ≤ i) && decide (i ≤ hi)))
        rw [decide_eq_false c]; rfl
    · cases ht
      refine BoolOp_and (UnaryOp_ (q2.isi (x := "value") (T := "bool") S.v hv S.i1 S.i3 T.i1 T.i3 (by decide +kernel : bootBuiltins "bool" = some (.type "bool")) zk hp (kit_ty (by decide +kernel : L2.kitB "bool" "bool" = some true)) ho fun tk2 => ?_))
      refine not_of (wpAny_truthy_bool ?_)
      exact wpAny_truthy_bool ⟨rfl, kp_tok _ _⟩
end
end DL
end
section
set_option Elab.async false
set_option linter.all false
set_option maxRecDepth 100000
set_option maxHeartbeats 2000000
namespace DL
open PySem PySem.Spec PyProof.Rows L2
/-! ### all(test for a, b in zip(x, y)), all(test for a in x) -/
theorem ad_new {n p : Nat} (h : p < n) : p ≠ n + 4 ∧ p ≠ n + 2 ∧ p ≠ n + 3 ∧ p ≠ n ∧ p ≠ n + 1 := by omega
theorem ad_lt {n m q a1 a2 : Nat} (hm : n + 5 ≤ m) (l1 : a1 < n) (l2 : a2 < n) (h : q = n + 4 ∨ q = n + 2 ∨ q = n + 3 ∨ q = n ∨ q = a1 ∨ q = n + 1 ∨ q = a2) : q < m := by omega
theorem ar2 {a c a' c' : Value} (e : (#[a, c] : Array Value) = #[a', c']) : a = a' ∧ c = c' := by
  have := congrArg Array.toList e
  simpa using this
theorem passing_true (n : Nat) : passing (fun _ => true) n 0 = List.range n := by
  unfold passing
  simp
theorem srOf_ne {k : Bool} {h : Heap} {a P : Addr} {its ps : Array Value} (x : srOf k h a its) (e : h.get? P = some { cls := .none, data := .fields ps }) : a ≠ P := fun z => by
  subst z
  cases k with
  | true => obtain ⟨o, q, c, _⟩ := x; rw [e] at q; cases q; cases c
  | false => obtain ⟨o, q, c, _⟩ := x; rw [e] at q; cases q; cases c
theorem up_tab {tb : List Addr} {P : Addr} {H H' : Hp} {ps : Array Value} (hP : H P = some (.tbl ps)) (t : GxR.Tabbed P H H') : Up tb H H' where
  keep := fun q o e n => by rw [t.2 q (fun z => by rw [z, hP] at e; cases e; exact n _ rfl)]; exact e
  tbl := fun q qs e => by
    by_cases z : q = P
    · subst z; obtain ⟨ps', e', _⟩ := t.1; exact ⟨ps', e'⟩
    · rw [t.2 q z]; exact ⟨qs, e⟩
  tab := fun h q hq => by
    by_cases z : q = P
    · subst z; exact t.1
    · obtain ⟨qs, e, g⟩ := h q hq
      exact ⟨qs, by rw [t.2 q z]; exact e, g⟩
/-- the test at place j -/
def trO (l : List (Option Bool)) (j : Nat) : Bool := (l[j]?).join.getD false
theorem all_trO (l : List (Option Bool)) : (List.range l.length).all (trO l) = l.all (fun k => k.getD false) := by
  rw [Bool.eq_iff_iff, List.all_eq_true, List.all_eq_true]
  constructor
  · intro h x hx
    obtain ⟨j, hj, e⟩ := List.getElem_of_mem hx
    have q := h j (List.mem_range.mpr hj)
    unfold trO at q
    rw [List.getElem?_eq_getElem hj, e] at q
    exact q
  · intro h j hj
    have hj' := List.mem_range.mp hj
    unfold trO
    rw [List.getElem?_eq_getElem hj']
    exact h _ (List.getElem_mem hj')
def allO (l : List (Option Bool)) : Option D := if l.all (·.isSome) = true then some (.bl (l.all fun k => k.getD false)) else none
theorem allO_of {l : List (Option Bool)} {d : D} (e : allO l = some d) : d = .bl ((List.range l.length).all (trO l)) ∧ ∀ j, j < l.length → ∃ k, l[j]? = some (some k) := by
  unfold allO at e
  split at e
  · rename_i h
    cases e
    refine ⟨by rw [all_trO], fun j hj => ?_⟩
    have := List.all_eq_true.mp h _ (List.getElem_mem hj)
    obtain ⟨k, hk⟩ := Option.isSome_iff_exists.mp this
    exact ⟨k, by rw [List.getElem?_eq_getElem hj, hk]⟩
  · cases e
def allZ (tst : D → D → Option Bool) : List D → Option D
  | [d, e] => (asS d).bind fun xs => (asS e).bind fun ys => allO (List.zipWith tst xs ys)
  | _ => none
@[reducible] def aAll2 (tst : DEnv → D → D → Option Bool) (fs : Act (List D)) : Act D := fs.bind fun ds ρ => match allZ (tst ρ) ds with
  | some d => .ok d ρ
  | none => .stuck
@[reducible] def aAll1 (tst : DEnv → D → Option Bool) (f : Act D) : Act D := f.bind fun d ρ => match (asS d).bind fun xs => allO (xs.map (tst ρ)) with
  | some d => .ok d ρ
  | none => .stuck
/-- what the element's step knows -/
structure Ec (X : Cx) (b : BC) (pins : List (Addr × Obj)) (σ : L2.St) (ρ : DEnv) (H : Hp) (s1 : Shared) (Pt : Addr) (A' : Around) (C : Addr) (s : Shared) (m : Str → Option Value) : Prop where
  I : Inv X pins σ H s1
  a : At b σ ρ H
  hP : ∃ ps, H Pt = some (.tbl ps)
  kp : ∀ q o, q ≠ Pt → s1.heap.get? q = some o → s.heap.get? q = some o
  hh : A'.handled = none
  dp : A'.depth ≤ X.A.depth + 1
  un : A'.units ≤ X.A.units + 8
  ns : s.heap.Ns C m
abbrev gEnv (X : Cx) (scope : Scope) (C : Addr) (code : Value) : Env := genEnv scope (cloFrom X.env.cells scope.names []) C code builtinsNs X.env
def Elt2 (X : Cx) (b : BC) (scope : Scope) (xa xb : Str) (elt : Expr) (tst : DEnv → D → D → Option Bool) : Prop := ∀ pins σ ρ H s1 Pt A' C code s m (E' : Value → Shared → Prop) u1 u2 v1 v2 d1 d2 k, Ec X b pins σ ρ H s1 Pt A' C s m →
  m xa = some u1 → m xb = some u2 → RelV v1 u1 → RelV v2 u2 → b.Im H v1 d1 → b.Im H v2 d2 → tst ρ d1 d2 = some k →
  wpAny (model X.prog X.w) A' (eval elt (gEnv X scope C code)) (fun y s3 => y = .bool k ∧ Keeps s s3) E' s
def Elt1 (X : Cx) (b : BC) (scope : Scope) (xa : Str) (elt : Expr) (tst : DEnv → D → Option Bool) : Prop := ∀ pins σ ρ H s1 Pt A' C code s m (E' : Value → Shared → Prop) u1 v1 d1 k, Ec X b pins σ ρ H s1 Pt A' C s m →
  m xa = some u1 → RelV v1 u1 → b.Im H v1 d1 → tst ρ d1 = some k →
  wpAny (model X.prog X.w) A' (eval elt (gEnv X scope C code)) (fun y s3 => y = .bool k ∧ Keeps s s3) E' s
/-- the generator's own scope -/
structure GenS2 (env : Env) (scope : Scope) (xa xb : Str) : Prop where
  kind : scope.kind = .function
  co : scope.isCoroutine = false
  cell : ∀ y ∈ scope.names, y.2 ≠ .cell
  dot : scope.names.lookup (".0" : Str) = some NameKind.local
  la : scope.names.lookup xa = some .local
  lb : scope.names.lookup xb = some .local
  ne : xa ≠ xb
  free : ∀ y ∈ scope.names, y.2 = .free → ∃ c, env.cells.lookup y.1 = some c
section
variable {X : Cx} {b : BC} {x : XC} {e1 e2 elt : Expr} {p zp gpos pos zpos pa pb pt px : Pos} {kt : Nat} {xa xb : Str} {scope : Scope} {f : Act D} {fs : Act (List D)} {tst : DEnv → D → D → Option Bool} {ts1 : DEnv → D → Option Bool} {c Pt : Addr} {k : Nat}
theorem px_all2 (hr : Room k X.A) (hP : X.prog = b.P) (hw : X.w = b.w) (hK : X.K = b.K) (hg : Gl X "all") (hm : X.mg "all" = none) (hgz : Gl X "zip") (hmz : X.mg "zip" = none) (TB : GxR.TabB X.base X.mg c Pt) (hcode : X.env.code = .ref c) (hPt : Pt ∈ b.tb)
    (S : GenS2 X.env scope xa xb) (ha : PA X [e1, e2] (tL b x fs)) (hel : Elt2 X b scope xa xb elt tst) (hs : ∀ v, genFold (.Call (.Name "zip" zp) [e1, e2] [] zpos) X.env v = pure v)
    (he : starEach [.GeneratorExp elt [⟨.Tuple [.Name xa pa, .Name xb pb] kt pt, .Call (.Name "zip" zp) [e1, e2] [] zpos, [], 0⟩] scope gpos] X.env = (false, eval (.GeneratorExp elt [⟨.Tuple [.Name xa pa, .Name xb pb] kt pt, .Call (.Name "zip" zp) [e1, e2] [] zpos, [], 0⟩] scope gpos) X.env) :: starEach [] X.env := by rfl)
    (hsz : starEach [e1, e2] X.env = (false, eval e1 X.env) :: starEach [e2] X.env := by rfl) (hpl : (backTo zpos (starEach [e2] X.env)).any (·.1) = false := by rfl) :
    PE X (.Call (.Name "all" p) [.GeneratorExp elt [⟨.Tuple [.Name xa pa, .Name xb pb] kt pt, .Call (.Name "zip" zp) [e1, e2] [] zpos, [], 0⟩] scope gpos] [] pos) (tD b x (aAll2 tst fs)) := by
  refine ⟨fun pins s σ H Q I ⟨ρ, a0, q0⟩ => ?_⟩
  refine wpAny_Call_Name_kw (ld_blt I hg hm (by decide +kernel : bootBuiltins "all" = some (.builtin "all")) ?_)
  refine PyProof.Rows.callWith_builtin1 ?_ he (by rfl)
  rw [he]
  show wpAny _ _ (spliced ((false, eval (.GeneratorExp elt [⟨.Tuple [.Name xa pa, .Name xb pb] kt pt, .Call (.Name "zip" zp) [e1, e2] [] zpos, [], 0⟩] scope gpos) X.env) :: backTo pos (starEach [] X.env))) _ _ s
  refine Calls.spliced_cons ?_
  refine wpAny_GeneratorExp_walksQTD hr.hd S.co (closure_ok S.free) S.cell S.dot S.la S.lb S.ne S.kind (by have := hr.dp; omega) ?_ hs
  refine Call_ (ld_blt I hgz hmz boot_zip (PyProof.Rows.callWith_type1 (thn (ha.run zpos pins s σ H (fun us H1 => ∃ (a1 a2 : Addr) (k1 k2 : Bool) (v1 v2 : List V) (xs ys : List D) (ρ1 : DEnv) (d : D), us = [.ref a1, .ref a2] ∧ Sq b.K k1 H1 a1 v1 ∧ Sq b.K k2 H1 a2 v2 ∧ b.ImL H1 v1 xs ∧ b.ImL H1 v2 ys ∧ At b σ ρ1 H1 ∧ Keep H H1 ∧ allO (List.zipWith (tst ρ1) xs ys) = some d ∧
    ∀ v H2, At b σ ρ1 H2 → Keep H H2 → b.Im H2 v d → Q v H2) I
    (tL_step (Keep.refl H) a0 q0 fun ds ρ1 us H1 a1 kp1 im q1 => ?_)) fun us s1 ⟨vs, H1, I1, r1, q1⟩ => ?_) hsz hpl))
  · unfold Go at q1
    cases e : allZ (tst ρ1) ds with
    | none => rw [e] at q1; exact q1.elim
    | some d =>
      rw [e] at q1
      unfold allZ at e
      split at e
      · obtain ⟨xs, g1, e⟩ := Option.bind_eq_some_iff.mp e
        obtain ⟨ys, g2, e⟩ := Option.bind_eq_some_iff.mp e
        cases im with
        | cons m1 im =>
          cases im with
          | cons m2 im =>
            cases im
            obtain ⟨b1, k1, v1, rfl, s1, t1⟩ := im_seq m1 g1
            obtain ⟨b2, k2, v2, rfl, s2, t2⟩ := im_seq m2 g2
            exact ⟨b1, b2, k1, k2, v1, v2, xs, ys, ρ1, d, rfl, s1, s2, t1, t2, a1, kp1, e, q1⟩
      · cases e
  · obtain ⟨a1, a2, k1, k2, v1, v2, xs, ys, ρ1, d, rfl, h1, h2, t1, t2, at1, kp1, eall, qR⟩ := q1
    cases r1 with
    | cons r rr =>
      cases rr with
      | cons r' rr =>
        cases rr
        cases r
        cases r'
        obtain ⟨i1, rv1, sr1, l1⟩ := src_of I1 (k := k1) (a := a1) (xs := v1) (by rw [hK]; exact h1.of)
        obtain ⟨i2, rv2, sr2, l2⟩ := src_of I1 (k := k2) (a := a2) (xs := v2) (by rw [hK]; exact h2.of)
        refine zip_begins2 (begins_src k1 a1 i1.toArray) (begins_src k2 a2 i2.toArray) sr1 sr2 fun h' hz hT hO o1 o2 hsize hk => wpAny_pyIter_zip hz ?_
        obtain ⟨ps, hPH, ht⟩ := at1.tab Pt hPt
        have hPs : s1.heap.get? Pt = some { cls := .none, data := .fields ps } := I1.hok Pt _ hPH
        have hPlt : Pt < s1.heap.objs.size := Heap.lt_size hPs
        have hP2 : h'.get? Pt = some { cls := .none, data := .fields ps } := hk _ _ hPs
        have cd : PySem.W.CodeHd h' c Pt := TB.code.keeps fun q u e => hk q u (I1.bk q u e)
        have lim2 : h'.NoLimit := I1.nolimit.keeps hk
        have hcl : cStatics < s1.heap.objs.size := let ⟨_, hns, _⟩ := I1.nolimit; hns.lt
        have hcP : cStatics ≠ Pt := fun e => by
          obtain ⟨_, hns, _⟩ := I1.nolimit
          obtain ⟨o', es, ep, ho, hd, _⟩ := hns
          rw [e, hPs] at ho
          cases ho
          cases hd
        obtain ⟨hd1, hall⟩ := allO_of eall
        have ll1 := ImL.length t1
        have ll2 := ImL.length t2
        have hlen : (List.zipWith (tst ρ1) xs ys).length = min v1.length v2.length := by rw [List.length_zipWith, ll1, ll2]
        have SZ := zip_sep2 (N := s1.heap.objs.size) (fp1 := [a1]) (fp2 := [a2]) (fun q hq => by rw [List.mem_singleton.mp hq]; exact l1) (fun q hq => by rw [List.mem_singleton.mp hq]; exact l2)
        have WW : ∀ A' : Around, A'.handled = none → WalksU X.prog X.w A' (s1.heap.objs.size + 4) ((s1.heap.objs.size + 4) :: (s1.heap.objs.size + 2) :: (s1.heap.objs.size + 3) :: ([s1.heap.objs.size, a1] ++ [s1.heap.objs.size + 1, a2])) [s1.heap.objs.size + 4, s1.heap.objs.size + 3, s1.heap.objs.size, s1.heap.objs.size + 1] (min i1.toArray.size i2.toArray.size) _ _ _ := fun A' hA =>
          (WalksT.zipD2 SZ (draws_src (prog := X.prog) (w := X.w) (A := A'.in1) hA k1 s1.heap.objs.size a1 (Nat.ne_of_lt l1) i1.toArray) (draws_src (prog := X.prog) (w := X.w) (A := A'.in1) hA k2 (s1.heap.objs.size + 1) a2 (Nat.ne_of_lt (Nat.lt_succ_of_lt l2)) i2.toArray)).toU
        have cont : ∀ (code : Value) (h3 : Heap) (tk : Nat) (ps' : Array Value), Heap.ExtBut Pt h' h3 → h'.objs.size ≤ h3.objs.size → h3.get? Pt = some { cls := .none, data := .fields ps' } → (∃ more, ps' = ps ++ more) → TriplesOk ps'.toList →
            wpAny (model X.prog X.w) X.A (builtinsFor X.env.globals X.env.builtins) (fun bi s₄ =>
              ∃ Ia fp wr n₀ Pf St₀ Mid pz F, Value.ref (s1.heap.objs.size + 4) = .ref Ia ∧ (∀ A' : Around, A'.handled = none → WalksU X.prog X.w A' Ia fp wr n₀ Pf St₀ Mid) ∧ (∀ i vals, Pf i vals → ∃ va vb, vals = #[va, vb]) ∧ St₀ 0 s₄.heap ∧ (∀ b ∈ fp, b < s₄.heap.objs.size) ∧ s₄.heap.NoLimit ∧ cStatics ∉ wr ∧
                (∀ href : Heap, (∀ b o, s₄.heap.get? b = some o → href.get? b = some o) →
                  QuietGenTD X.prog X.w (genEnv scope (cloFrom X.env.cells scope.names []) s₄.heap.objs.size code bi X.env) xa xb [] elt (List.range s₄.heap.objs.size) wr Pf pz F href (X.A.depth + 1) (X.A.units + 8)) ∧
                (∀ a h₅ tk gs, gs.bare = true → s₄.heap.objs.size < a → h₅.objs.size = a + 1 → (∀ b o, s₄.heap.get? b = some o → h₅.get? b = some o) →
                  WalksS X.prog X.w X.A.in4 a (a :: s₄.heap.objs.size :: List.range s₄.heap.objs.size) (s₄.heap.objs.size :: wr) (GenOnlyQ s₄.gens.size) (passing pz n₀ 0).length
                    (fun j y => ∃ i, (passing pz n₀ 0)[j]? = some i ∧ F i y) (GenAt X.prog X.w X.A.in4 a s₄.gens.size s₄.heap.objs.size (List.range s₄.heap.objs.size) wr pz n₀ F) →
                  GenAt X.prog X.w X.A.in4 a s₄.gens.size s₄.heap.objs.size (List.range s₄.heap.objs.size) wr pz n₀ F 0 { s₄ with gens := s₄.gens.push gs, toks := tk, heap := h₅ } →
                  wpAny (model X.prog X.w) X.A (spliced (backTo pos (starEach [] X.env))) (fun vs s2 => wpAny (model X.prog X.w) X.A (call (.builtin "all") (Value.ref a :: vs)) (EP X pins σ Q) X.xe s2) X.xe { s₄ with gens := s₄.gens.push gs, toks := tk, heap := h₅ })) X.xe { s1 with heap := h3, toks := tk } := by
          intro code h3 tk ps' hx hszz hP3 hmore ht3
          obtain ⟨bm, ob, e1, e2, e3, e4, e5, e6, e7, e8⟩ := TB.bm
          have keep3 : ∀ q u, q ≠ Pt → s1.heap.get? q = some u → h3.get? q = some u := fun q u hb e => hx q u hb (hk _ _ e)
          refine wpAny_builtinsFor (m := X.mg) (by rw [I1.ok.glob]; exact ((I1.mod.glob.keeps I1.bk).keeps hk).extBut hx TB.gP) e1 e2 (keep3 _ _ e4 (I1.bk _ _ e5)) e6 e7 e8 ?_
          refine ⟨_, _, _, _, _, _, _, (fun _ => true), (fun i y => ∃ k, (List.zipWith (tst ρ1) xs ys)[i]? = some (some k) ∧ y = .bool k), rfl, WW, ?_, ?_, ?_, lim2.extBut hx hcP, ?_, ?_, ?_⟩
          · rintro i vals ⟨x1, x2, _, _, rfl⟩
            exact ⟨_, _, rfl⟩
          · have st0 : IsZip h' (s1.heap.objs.size + 4) (s1.heap.objs.size + 2) (s1.heap.objs.size + 3) .none ∧ IsTupOf2 h' (s1.heap.objs.size + 2) (.ref s1.heap.objs.size) (.ref (s1.heap.objs.size + 1)) ∧ (∃ c1 c2, IsTupOf2 h' (s1.heap.objs.size + 3) c1 c2) ∧ (itOf k1 h' s1.heap.objs.size a1 0 ∧ srOf k1 h' a1 i1.toArray) ∧ (itOf k2 h' (s1.heap.objs.size + 1) a2 0 ∧ srOf k2 h' a2 i2.toArray) :=
              ⟨hz, hT, ⟨_, _, hO⟩, ⟨itOf.new o1, (begins_src k1 a1 i1.toArray).keeps _ _ sr1 hk⟩, ⟨itOf.new o2, (begins_src k2 a2 i2.toArray).keeps _ _ sr2 hk⟩⟩
            have ne1 := srOf_ne sr1 hPs
            have ne2 := srOf_ne sr2 hPs
            refine (WW X.A hr.hd).frame 0 h' h3 st0 fun q hq u e => hx q u (fun z => ?_) e
            have hq' : q = s1.heap.objs.size + 4 ∨ q = s1.heap.objs.size + 2 ∨ q = s1.heap.objs.size + 3 ∨ q = s1.heap.objs.size ∨ q = a1 ∨ q = s1.heap.objs.size + 1 ∨ q = a2 := by simpa using hq
            rw [z] at hq'
            obtain ⟨n4, n2, n3, n0, n1⟩ := ad_new hPlt
            rcases hq' with y | y | y | y | y | y | y
            · exact n4 y
            · exact n2 y
            · exact n3 y
            · exact n0 y
            · exact ne1 y.symm
            · exact n1 y
            · exact ne2 y.symm
          · intro q hq
            have hq' : q = s1.heap.objs.size + 4 ∨ q = s1.heap.objs.size + 2 ∨ q = s1.heap.objs.size + 3 ∨ q = s1.heap.objs.size ∨ q = a1 ∨ q = s1.heap.objs.size + 1 ∨ q = a2 := by simpa using hq
            exact ad_lt (by rw [hsize] at hszz; exact hszz) l1 l2 hq'
          · intro hq
            have hq' : cStatics = s1.heap.objs.size + 4 ∨ cStatics = s1.heap.objs.size + 3 ∨ cStatics = s1.heap.objs.size ∨ cStatics = s1.heap.objs.size + 1 := by simpa using hq
            obtain ⟨n4, n2, n3, n0, n1⟩ := ad_new hcl
            rcases hq' with y | y | y | y
            · exact n4 y
            · exact n3 y
            · exact n0 y
            · exact n1 y
          · intro href hhref
            refine ⟨fun A' E' i va vb s₂ m₂ hA hD hU hPv hn hma hmb hkp => ?_, fun A' E' i va vb s₂ m₂ hA hD hU hPv hp hn hma hmb hkp => ?_⟩
            · simp only [List.forIn_nil]
              exact wpAny_pure ⟨rfl, kp_refl _⟩
            · obtain ⟨y1, y2, hy1, hy2, eq⟩ := hPv
              obtain ⟨e1', e2'⟩ := ar2 eq
              subst e1' e2'
              obtain ⟨w1, hw1, rw1⟩ := ar_get rv1 hy1
              obtain ⟨w2, hw2, rw2⟩ := ar_get rv2 hy2
              obtain ⟨d1, g1, j1⟩ := ImL.get t1 hw1
              obtain ⟨d2, g2, j2⟩ := ImL.get t2 hw2
              have hz2 : (List.zipWith (tst ρ1) xs ys)[i]? = some (tst ρ1 d1 d2) := by
                rw [List.getElem?_zipWith, g1, g2]
              obtain ⟨kk, hkk⟩ := hall i (by
                have := (List.getElem?_eq_some_iff.mp hz2).1
                exact this)
              rw [hz2] at hkk
              have htst : tst ρ1 d1 d2 = some kk := Option.some.inj hkk
              have kpS : ∀ q o, q ≠ Pt → s1.heap.get? q = some o → s₂.heap.get? q = some o := fun q o hq e => by
                obtain ⟨n4, n2, n3, n0, n1⟩ := ad_new (Heap.lt_size e)
                have e3 := keep3 q o hq e
                refine hkp q (List.mem_range.mpr (Heap.lt_size e3)) (fun hq => ?_) o (hhref q o e3)
                have hq' : q = s1.heap.objs.size + 4 ∨ q = s1.heap.objs.size + 3 ∨ q = s1.heap.objs.size ∨ q = s1.heap.objs.size + 1 := by simpa using hq
                rcases hq' with y | y | y | y
                · exact n4 y
                · exact n3 y
                · exact n0 y
                · exact n1 y
              exact wpAny_mono (hel pins σ ρ1 H1 s1 Pt A' h3.objs.size code s₂ m₂ E' va vb w1 w2 d1 d2 kk ⟨I1, at1, ⟨ps, hPH⟩, kpS, hA, hD, hU, hn⟩ hma hmb rw1 rw2 j1 j2 htst) (fun y s3 r => ⟨⟨kk, by rw [hz2, htst], r.1⟩, r.2⟩) fun _ _ e => e
          · intro g h5 tk5 gs hgb hag hsz5 hk5 W5 hat
            refine Calls.spliced_nil ?_
            simp only [passing_true, List.length_range] at W5
            have W1 := W5.in4_1
            have htr : TruthOf X.prog X.w X.A.in1 (fun j y => ∃ i, (List.range (min i1.toArray.size i2.toArray.size))[j]? = some i ∧ ∃ k, (List.zipWith (tst ρ1) xs ys)[i]? = some (some k) ∧ y = .bool k) (trO (List.zipWith (tst ρ1) xs ys)) := by
              intro j y sj Qj Ej hy hQj
              obtain ⟨i, hij, kk, hkk, rfl⟩ := hy
              obtain ⟨hj, ej⟩ := List.getElem?_eq_some_iff.mp hij
              rw [List.getElem_range] at ej
              subst ej
              have e9 : trO (List.zipWith (tst ρ1) xs ys) j = kk := by unfold trO; rw [hkk]; rfl
              rw [e9] at hQj
              exact wpAny_truthy_bool hQj
            refine call_all_walkS (W1.self 0 _ _ _ hat ⟨g, _, _, _, _, _, _, _, rfl, W1, hat, htr, fun s' hmv => ?_⟩)
            obtain ⟨more, em⟩ := hmore
            have nwr : ∀ q u, s1.heap.get? q = some u → q ∉ h3.objs.size :: [s1.heap.objs.size + 4, s1.heap.objs.size + 3, s1.heap.objs.size, s1.heap.objs.size + 1] := fun q u e hq => by
              have hl := Heap.lt_size e
              obtain ⟨n4, n2, n3, n0, n1⟩ := ad_new hl
              rcases List.mem_cons.mp hq with z | z
              · rw [z] at hl
                have h9 : (h3.objs.size : Nat) < s1.heap.objs.size := hl
                rw [hsize] at hszz
                have h8 : (s1.heap.objs.size : Nat) + 5 ≤ h3.objs.size := hszz
                omega
              · have hq' : q = s1.heap.objs.size + 4 ∨ q = s1.heap.objs.size + 3 ∨ q = s1.heap.objs.size ∨ q = s1.heap.objs.size + 1 := by simpa using z
                rcases hq' with y | y | y | y
                · exact n4 y
                · exact n3 y
                · exact n0 y
                · exact n1 y
            have J := GxR.inv_tab (more := more) (h' := s'.heap) (g' := s'.gens) (d' := s'.drawn) (t' := s'.toks) I1 hPH (fun q u hb e => hmv.heap q u (nwr q u e) (hk5 q u (keep3 q u hb e)))
              (by rw [← em]; exact hmv.heap Pt _ (nwr Pt _ hPs) (hk5 Pt _ hP3)) (AllBare.movedS (I1.bare.push hgb) hmv)
            rw [GxR.sh_eta s1 s' hmv.os] at J
            have tbd : GxR.Tabbed Pt H1 (upd H1 Pt (.tbl (ps ++ more))) := ⟨⟨ps ++ more, upd_same, by rw [← em]; exact ht3⟩, fun q hq => upd_ne hq⟩
            have up := up_tab (tb := b.tb) hPH tbd
            refine ⟨.bl _, _, J, rfl, qR _ _ (at1.up up) (kp1.trans up.toKeep) ?_⟩
            rw [hd1, hlen, size_vals rv1, size_vals rv2]
            exact .bl _
        refine ⟨lim2, ?_⟩
        cases hf : codeAmong gpos ps.toList with
        | none =>
          refine wpAny_genexprCodeX hcode (cd.code hP2 ht) (cd.tab hP2) hf fun c' h'' tk hx hge hlt hco' _ htab' _ => ?_
          obtain ⟨o1, vs, f1, tf, fl, tg, inF, tx, tt, op, _, _, _, _, _, _, _, _, _, htr, _⟩ := hco'
          exact cont _ h'' tk _ hx (Nat.le_trans hge (Nat.le_of_lt hlt)) htab'.2 ⟨_, rfl⟩ htr
        | some cv =>
          refine wpAny_genexprCode_hit hcode (cd.code hP2 ht) hf ?_
          exact cont cv h' s1.toks ps (Heap.ExtBut.refl _ _) (Nat.le_refl _) hP2 ⟨#[], by simp⟩ ht
end
end DL
end
section
set_option Elab.async false
set_option linter.all false
set_option maxRecDepth 100000
set_option maxHeartbeats 2000000
namespace DL
open PySem PySem.Spec PyProof.Rows L2
theorem ad_lt1 {n m q a1 : Nat} (hm : n + 1 ≤ m) (l1 : a1 < n) (h : q = n ∨ q = a1) : q < m := by omega
theorem ad_no1 {n m : Nat} (hm : n + 1 ≤ m) (l : m < n) : False := by omega
theorem walks_src {prog : Program} {w : World} {A : Around} (hh : A.handled = none) (k : Bool) (it a : Addr) (hne : a ≠ it) (items : Array Value) :
    Walks prog w A it [it, a] [it] items.size (fun i v => items[i]? = some v) (fun i h => itOf k h it a i ∧ srOf k h a items) := by
  cases k with
  | true => exact Walks.tuple hh it a hne items
  | false => exact Walks.list hh it a hne items
section
variable {X : Cx} {b : BC} {x : XC} {e1 e2 elt : Expr} {p zp gpos pos zpos pa pb pt px : Pos} {kt : Nat} {xa xb : Str} {scope : Scope} {f : Act D} {fs : Act (List D)} {tst : DEnv → D → D → Option Bool} {ts1 : DEnv → D → Option Bool} {c Pt : Addr} {k : Nat}
theorem px_all1 (hr : Room k X.A) (hP : X.prog = b.P) (hw : X.w = b.w) (hK : X.K = b.K) (hg : Gl X "all") (hm : X.mg "all" = none) (TB : GxR.TabB X.base X.mg c Pt) (hcode : X.env.code = .ref c) (hPt : Pt ∈ b.tb)
    (S : GxR.GenS X.env scope xa) (ha : PE X e1 (tD b x f)) (hel : Elt1 X b scope xa elt ts1) (hs : ∀ v, genFold e1 X.env v = pure v)
    (he : starEach [.GeneratorExp elt [⟨.Name xa pa, e1, [], 0⟩] scope gpos] X.env = (false, eval (.GeneratorExp elt [⟨.Name xa pa, e1, [], 0⟩] scope gpos) X.env) :: starEach [] X.env := by rfl) :
    PE X (.Call (.Name "all" p) [.GeneratorExp elt [⟨.Name xa pa, e1, [], 0⟩] scope gpos] [] pos) (tD b x (aAll1 ts1 f)) := by
  refine ⟨fun pins s σ H Q I ⟨ρ, a0, q0⟩ => ?_⟩
  refine wpAny_Call_Name_kw (ld_blt I hg hm (by decide +kernel : bootBuiltins "all" = some (.builtin "all")) ?_)
  refine PyProof.Rows.callWith_builtin1 ?_ he (by rfl)
  rw [he]
  show wpAny _ _ (spliced ((false, eval (.GeneratorExp elt [⟨.Name xa pa, e1, [], 0⟩] scope gpos) X.env) :: backTo pos (starEach [] X.env))) _ _ s
  refine Calls.spliced_cons ?_
  refine wpAny_GeneratorExp_walksQD hr.hd S.co (closure_ok S.free) S.cell S.dot S.loc S.kind (by have := hr.dp; omega) ?_ hs
  refine thn (ha.run pins s σ H (fun u H1 => ∃ (a1 : Addr) (k1 : Bool) (v1 : List V) (xs : List D) (ρ1 : DEnv) (d : D), u = .ref a1 ∧ Sq b.K k1 H1 a1 v1 ∧ b.ImL H1 v1 xs ∧ At b σ ρ1 H1 ∧ Keep H H1 ∧ allO (xs.map (ts1 ρ1)) = some d ∧
    ∀ v H2, At b σ ρ1 H2 → Keep H H2 → b.Im H2 v d → Q v H2) I
    (tD_step (Keep.refl H) a0 q0 fun dd ρ1 u H1 a1 kp1 im q1 => ?_)) fun u s1 ⟨v, H1, I1, r1, q1⟩ => ?_
  · unfold Go at q1
    cases e : (asS dd).bind fun xs => allO (xs.map (ts1 ρ1)) with
    | none => simp only [e] at q1
    | some d =>
      simp only [e] at q1
      obtain ⟨xs, g1, e⟩ := Option.bind_eq_some_iff.mp e
      obtain ⟨b1, k1, v1, rfl, s1, t1⟩ := im_seq im g1
      exact ⟨b1, k1, v1, xs, ρ1, d, rfl, s1, t1, a1, kp1, e, q1⟩
  · obtain ⟨a1, k1, v1, xs, ρ1, d, rfl, h1, t1, at1, kp1, eall, qR⟩ := q1
    cases r1
    obtain ⟨i1, rv1, sr1, l1⟩ := src_of I1 (k := k1) (a := a1) (xs := v1) (by rw [hK]; exact h1.of)
    refine (begins_src k1 a1 i1.toArray).iter _ _ _ _ _ _ sr1 ?_
    have hk : ∀ c o, s1.heap.get? c = some o → (s1.heap.push (itO k1 a1)).get? c = some o := fun c o e => Heap.get?_push_of_some _ e
    have hsize : (s1.heap.push (itO k1 a1)).objs.size = s1.heap.objs.size + 1 := Heap.size_push ..
    have o1 : (s1.heap.push (itO k1 a1)).get? s1.heap.objs.size = some (itO k1 a1) := Heap.get?_push_size _ (begins_src k1 a1 i1.toArray).free
    generalize hgen : s1.heap.push (itO k1 a1) = h' at hk hsize o1
    skip
    obtain ⟨ps, hPH, ht⟩ := at1.tab Pt hPt
    have hPs : s1.heap.get? Pt = some { cls := .none, data := .fields ps } := I1.hok Pt _ hPH
    have hPlt : Pt < s1.heap.objs.size := Heap.lt_size hPs
    have hP2 : h'.get? Pt = some { cls := .none, data := .fields ps } := hk _ _ hPs
    have cd : PySem.W.CodeHd h' c Pt := TB.code.keeps fun q u e => hk q u (I1.bk q u e)
    have lim2 : h'.NoLimit := I1.nolimit.keeps hk
    have hcl : cStatics < s1.heap.objs.size := let ⟨_, hns, _⟩ := I1.nolimit; hns.lt
    have hcP : cStatics ≠ Pt := fun e => by
      obtain ⟨_, hns, _⟩ := I1.nolimit
      obtain ⟨o', es, ep, ho, hd, _⟩ := hns
      rw [e, hPs] at ho
      cases ho
      cases hd
    obtain ⟨hd1, hall⟩ := allO_of eall
    have ll1 := ImL.length t1
    have hlen : (xs.map (ts1 ρ1)).length = v1.length := by rw [List.length_map, ll1]
    have WW : ∀ A' : Around, A'.handled = none → Walks X.prog X.w A' s1.heap.objs.size [s1.heap.objs.size, a1] [s1.heap.objs.size] i1.toArray.size (fun i v => i1.toArray[i]? = some v) (fun i h => itOf k1 h s1.heap.objs.size a1 i ∧ srOf k1 h a1 i1.toArray) := fun A' hA => walks_src hA k1 s1.heap.objs.size a1 (Nat.ne_of_lt l1) i1.toArray
    have cont : ∀ (code : Value) (h3 : Heap) (tk : Nat) (ps' : Array Value), Heap.ExtBut Pt h' h3 → h'.objs.size ≤ h3.objs.size → h3.get? Pt = some { cls := .none, data := .fields ps' } → (∃ more, ps' = ps ++ more) → TriplesOk ps'.toList →
        wpAny (model X.prog X.w) X.A (builtinsFor X.env.globals X.env.builtins) (fun bi s₄ =>
          ∃ Ia fp wr n₀ Pf St₀ pz F, Value.ref s1.heap.objs.size = .ref Ia ∧ (∀ A' : Around, A'.handled = none → Walks X.prog X.w A' Ia fp wr n₀ Pf St₀) ∧ St₀ 0 s₄.heap ∧ (∀ b ∈ fp, b < s₄.heap.objs.size) ∧ s₄.heap.NoLimit ∧ cStatics ∉ wr ∧
            (∀ href : Heap, (∀ b o, s₄.heap.get? b = some o → href.get? b = some o) →
              QuietGenD X.prog X.w (genEnv scope (cloFrom X.env.cells scope.names []) s₄.heap.objs.size code bi X.env) xa [] elt (List.range s₄.heap.objs.size) wr Pf pz F href (X.A.depth + 1) (X.A.units + 8)) ∧
            (∀ a h₅ tk gs, gs.bare = true → s₄.heap.objs.size < a → h₅.objs.size = a + 1 → (∀ b o, s₄.heap.get? b = some o → h₅.get? b = some o) →
              WalksS X.prog X.w X.A.in4 a (a :: s₄.heap.objs.size :: List.range s₄.heap.objs.size) (s₄.heap.objs.size :: wr) (GenOnlyQ s₄.gens.size) (passing pz n₀ 0).length
                (fun j y => ∃ i, (passing pz n₀ 0)[j]? = some i ∧ F i y) (GenAt X.prog X.w X.A.in4 a s₄.gens.size s₄.heap.objs.size (List.range s₄.heap.objs.size) wr pz n₀ F) →
              GenAt X.prog X.w X.A.in4 a s₄.gens.size s₄.heap.objs.size (List.range s₄.heap.objs.size) wr pz n₀ F 0 { s₄ with gens := s₄.gens.push gs, toks := tk, heap := h₅ } →
              wpAny (model X.prog X.w) X.A (spliced (backTo pos (starEach [] X.env))) (fun vs s2 => wpAny (model X.prog X.w) X.A (call (.builtin "all") (Value.ref a :: vs)) (EP X pins σ Q) X.xe s2) X.xe { s₄ with gens := s₄.gens.push gs, toks := tk, heap := h₅ })) X.xe { s1 with heap := h3, toks := tk } := by
      intro code h3 tk ps' hx hszz hP3 hmore ht3
      obtain ⟨bm, ob, e1, e2, e3, e4, e5, e6, e7, e8⟩ := TB.bm
      have keep3 : ∀ q u, q ≠ Pt → s1.heap.get? q = some u → h3.get? q = some u := fun q u hb e => hx q u hb (hk _ _ e)
      refine wpAny_builtinsFor (m := X.mg) (by rw [I1.ok.glob]; exact ((I1.mod.glob.keeps I1.bk).keeps hk).extBut hx TB.gP) e1 e2 (keep3 _ _ e4 (I1.bk _ _ e5)) e6 e7 e8 ?_
      refine ⟨_, _, _, _, _, _, (fun _ => true), (fun i y => ∃ k, (xs.map (ts1 ρ1))[i]? = some (some k) ∧ y = .bool k), rfl, WW, ?_, ?_, lim2.extBut hx hcP, ?_, ?_, ?_⟩
      · refine (WW X.A hr.hd).frame 0 h' h3 ⟨itOf.new o1, (begins_src k1 a1 i1.toArray).keeps _ _ sr1 hk⟩ fun q hq u e => hx q u (fun z => ?_) e
        have hq' : q = s1.heap.objs.size ∨ q = a1 := by simpa using hq
        rw [z] at hq'
        rcases hq' with y | y
        · exact Nat.ne_of_lt hPlt y
        · exact srOf_ne sr1 hPs y.symm
      · intro q hq
        have hq' : q = s1.heap.objs.size ∨ q = a1 := by simpa using hq
        exact ad_lt1 (by rw [hsize] at hszz; exact hszz) l1 hq'
      · intro hq
        have hq' : cStatics = s1.heap.objs.size := by simpa using hq
        exact Nat.ne_of_lt hcl hq'
      · intro href hhref
        refine ⟨fun A' E' i va s₂ m₂ hA hD hU hPv hn hma hkp => ?_, fun A' E' i va s₂ m₂ hA hD hU hPv hp hn hma hkp => ?_⟩
        · simp only [List.forIn_nil]
          exact wpAny_pure ⟨rfl, kp_refl _⟩
        · obtain ⟨w1, hw1, rw1⟩ := ar_get rv1 hPv
          obtain ⟨d1, g1, j1⟩ := ImL.get t1 hw1
          have hz2 : (xs.map (ts1 ρ1))[i]? = some (ts1 ρ1 d1) := by rw [List.getElem?_map, g1]; rfl
          obtain ⟨kk, hkk⟩ := hall i (List.getElem?_eq_some_iff.mp hz2).1
          rw [hz2] at hkk
          have htst : ts1 ρ1 d1 = some kk := Option.some.inj hkk
          have kpS : ∀ q o, q ≠ Pt → s1.heap.get? q = some o → s₂.heap.get? q = some o := fun q o hq e => by
            have e3 := keep3 q o hq e
            refine hkp q (List.mem_range.mpr (Heap.lt_size e3)) (fun hq => ?_) o (hhref q o e3)
            have hq' : q = s1.heap.objs.size := by simpa using hq
            exact Nat.ne_of_lt (Heap.lt_size e) hq'
          exact wpAny_mono (hel pins σ ρ1 H1 s1 Pt A' h3.objs.size code s₂ m₂ E' va w1 d1 kk ⟨I1, at1, ⟨ps, hPH⟩, kpS, hA, hD, hU, hn⟩ hma rw1 j1 htst) (fun y s3 r => ⟨⟨kk, by rw [hz2, htst], r.1⟩, r.2⟩) fun _ _ e => e
      · intro g h5 tk5 gs hgb hag hsz5 hk5 W5 hat
        refine Calls.spliced_nil ?_
        simp only [passing_true, List.length_range] at W5
        have W1 := W5.in4_1
        have htr : TruthOf X.prog X.w X.A.in1 (fun j y => ∃ i, (List.range (i1.toArray.size))[j]? = some i ∧ ∃ k, (xs.map (ts1 ρ1))[i]? = some (some k) ∧ y = .bool k) (trO (xs.map (ts1 ρ1))) := by
          intro j y sj Qj Ej hy hQj
          obtain ⟨i, hij, kk, hkk, rfl⟩ := hy
          obtain ⟨hj, ej⟩ := List.getElem?_eq_some_iff.mp hij
          rw [List.getElem_range] at ej
          subst ej
          have e9 : trO (xs.map (ts1 ρ1)) j = kk := by unfold trO; rw [hkk]; rfl
          rw [e9] at hQj
          exact wpAny_truthy_bool hQj
        refine call_all_walkS (W1.self 0 _ _ _ hat ⟨g, _, _, _, _, _, _, _, rfl, W1, hat, htr, fun s' hmv => ?_⟩)
        obtain ⟨more, em⟩ := hmore
        have nwr : ∀ q u, s1.heap.get? q = some u → q ∉ h3.objs.size :: [s1.heap.objs.size] := fun q u e hq => by
          have hl := Heap.lt_size e
          rcases List.mem_cons.mp hq with z | z
          · rw [z] at hl
            exact ad_no1 (by rw [hsize] at hszz; exact hszz) hl
          · have hq' : q = s1.heap.objs.size := by simpa using z
            exact Nat.ne_of_lt hl hq'
        have J := GxR.inv_tab (more := more) (h' := s'.heap) (g' := s'.gens) (d' := s'.drawn) (t' := s'.toks) I1 hPH (fun q u hb e => hmv.heap q u (nwr q u e) (hk5 q u (keep3 q u hb e)))
          (by rw [← em]; exact hmv.heap Pt _ (nwr Pt _ hPs) (hk5 Pt _ hP3)) (AllBare.movedS (I1.bare.push hgb) hmv)
        rw [GxR.sh_eta s1 s' hmv.os] at J
        have tbd : GxR.Tabbed Pt H1 (upd H1 Pt (.tbl (ps ++ more))) := ⟨⟨ps ++ more, upd_same, by rw [← em]; exact ht3⟩, fun q hq => upd_ne hq⟩
        have up := up_tab (tb := b.tb) hPH tbd
        refine ⟨.bl _, _, J, rfl, qR _ _ (at1.up up) (kp1.trans up.toKeep) ?_⟩
        rw [hd1, hlen, size_vals rv1]
        exact .bl _
    refine ⟨lim2, ?_⟩
    cases hf : codeAmong gpos ps.toList with
    | none =>
      refine wpAny_genexprCodeX hcode (cd.code hP2 ht) (cd.tab hP2) hf fun c' h'' tk hx hge hlt hco' _ htab' _ => ?_
      obtain ⟨o1, vs, f1, tf, fl, tg, inF, tx, tt, op, _, _, _, _, _, _, _, _, _, htr, _⟩ := hco'
      exact cont _ h'' tk _ hx (Nat.le_trans hge (Nat.le_of_lt hlt)) htab'.2 ⟨_, rfl⟩ htr
    | some cv =>
      refine wpAny_genexprCode_hit hcode (cd.code hP2 ht) hf ?_
      exact cont cv h' s1.toks ps (Heap.ExtBut.refl _ _) (Nat.le_refl _) hP2 ⟨#[], by simp⟩ ht
end
end DL
end
section
set_option Elab.async false
set_option linter.all false
set_option maxRecDepth 100000
set_option maxHeartbeats 2000000
namespace DL
open PySem PySem.Spec PyProof.Rows L2
section
variable {X : Cx} {b : BC} {pins : List (Addr × Obj)} {σ : L2.St} {ρ : DEnv} {H : Hp} {s s1 : Shared} {Pt C : Addr} {A' : Around} {m : Str → Option Value}
theorem Ec.get (e : Ec X b pins σ ρ H s1 Pt A' C s m) {q : Addr} {o : Obj} (h : s1.heap.get? q = some o) (n : ∀ ps, H q ≠ some (.tbl ps)) : s.heap.get? q = some o := by
  obtain ⟨ps, hp⟩ := e.hP
  exact e.kp q o (fun z => n ps (by rw [z]; exact hp)) h
theorem Ec.bs (e : Ec X b pins σ ρ H s1 Pt A' C s m) : ∀ q o, X.base.get? q = some o → s.heap.get? q = some o := fun q o h => by
  obtain ⟨g, n⟩ := e.I.bs q o h
  exact e.get g fun ps z => by rw [n] at z; cases z
theorem Ec.kit (e : Ec X b pins σ ρ H s1 Pt A' C s m) (hK : X.K = b.K) {v : V} {u : Value} {d : D} {t : String} (i : b.Im H v d) (r : RelV v u) (ht : d.ty = some t) : Kit X.K u d s.heap := by
  cases i with
  | non => cases r; cases ht; exact ⟨⟨_, _, rfl, PySem.W.kitx_none, fun _ _ => True.intro, fun z => nomatch z⟩, fun _ z => nomatch z⟩
  | bl _ => cases r; cases ht; exact ⟨⟨_, _, rfl, PySem.W.kitx_bool, fun _ _ => True.intro, fun z => nomatch z⟩, fun _ z => nomatch z⟩
  | int j => obtain ⟨t1, rfl⟩ := r; cases ht; exact ⟨⟨_, _, rfl, PySem.W.kitx_int, fun _ _ => True.intro, fun z => nomatch z⟩, fun _ z => by cases z; exact ⟨t1, rfl⟩⟩
  | str _ => obtain ⟨t1, rfl⟩ := r; cases ht; exact ⟨⟨_, _, rfl, PySem.W.kitx_str, fun _ _ => True.intro, fun z => nomatch z⟩, fun _ z => nomatch z⟩
  | @tup a vs xs h _ =>
    cases (show u = Value.ref a from r)
    cases ht
    refine ⟨⟨_, _, rfl, PySem.W.kitx_tuple (a := a), ?_, fun z => nomatch z⟩, fun _ z => nomatch z⟩
    rcases h with (h | ⟨o, h⟩) | ⟨o, its, n, h, hc, _⟩
    · obtain ⟨_, _, _, o, h1, h2, _⟩ := (show ObjOk X.prog X.w H s1.heap a (.tup vs) from e.I.hok a _ h)
      exact fun h' k => ⟨o, k _ _ (e.get h1 (fun ps z => by rw [h] at z; cases z)), h2⟩
    · obtain ⟨_, _, _, _, o', h1, h2, _⟩ := (show ObjOk X.prog X.w H s1.heap a (.frz o (.tup vs)) from e.I.hok a _ h)
      exact fun h' k => ⟨o', k _ _ (e.get h1 (fun ps z => by rw [h] at z; cases z)), h2⟩
    · exact fun h' k => ⟨o, k _ _ (e.bs a o (e.I.mod.kin a o (by rw [hK]; exact h))), hc⟩
  | @lst a vs xs h _ =>
    cases (show u = Value.ref a from r)
    cases ht
    obtain ⟨o, h⟩ := h
    obtain ⟨_, _, _, n, _, h1⟩ := (show ObjOk X.prog X.w H s1.heap a (.frz o (.lst vs)) from e.I.hok a _ h)
    exact ⟨⟨_, _, rfl, PySem.W.kitx_list (a := a), fun h' k => ⟨_, k _ _ (e.get h1 (fun ps z => by rw [h] at z; cases z)), rfl⟩, fun z => nomatch z⟩, fun _ z => nomatch z⟩
  | dct _ _ _ _ => cases ht
  | op _ => cases ht
/-- the generator's frame is quiet -/
theorem Ec.qx (e : Ec X b pins σ ρ H s1 Pt A' C s m) {scope : Scope} {code : Value} (hk : scope.kind = .function) : Qx X.K X.mg (gEnv X scope C code) m s where
  kind := hk
  gl := e.I.ok.glob
  bl := rfl
  md := md_keeps e.I.mod e.bs
  ns := e.ns
end
/-- a def with a given code object -/
structure FunC (K : PySem.W.Frag) (x qual : Str) (st : Stmt) (f : Addr) (fd : FuncData) (c : Addr) : Prop where
  ex : ∃ (oc : Value) (od : Option Addr) (kV doc pm : Value) (an : Option Addr) (ct : Value) (osl : Array (Option Value)),
    fd = PySem.W.fnOf x qual (defArgs st) (defBody st) (defScope st) .none kV doc pm an (.ref c) ct ∧ K.lookup f = some ⟨oc, od, .func fd, osl⟩ ∧ PySem.W.codeIn K (.ref c) qual = true
  kp : PySem.W.keepIn K (.ref f) = true
section
variable {P : Program} {w : World} {K : PySem.W.Frag} {mg : Str → Option Value} {base : Heap} {tb : List Addr} {A : Around} {E : Value → Shared → Prop} {env : Env} {m : Str → Option Value} {s : Shared} {Q : Value → Shared → Prop} {x : Str} {p p1 p2 p3 p4 : Pos}
theorem FunC.toFun {qual : Str} {st : Stmt} {f c : Addr} {fd : FuncData} (F : FunC K x qual st f fd c) : Fun K x qual st f fd :=
  ⟨let ⟨oc, od, kV, doc, pm, an, ct, osl, h1, h2, h3⟩ := F.ex; ⟨oc, od, kV, doc, pm, an, .ref c, ct, osl, h1, h2, h3⟩, F.kp⟩
theorem look3 {u v l : Value} (y : Str) : ((["value", "low", "high"] : List Str).zip [u, v, l]).reverse.lookup y = if y = "high" then some l else if y = "low" then some v else if y = "value" then some u else none := by
  show List.lookup y [(("high" : Str), l), ("low", v), ("value", u)] = _
  simp only [List.lookup]
  by_cases h1 : y = "high"
  · rw [if_pos h1, beq_iff_eq.mpr h1]
  · rw [if_neg h1, beq_eq_false_iff_ne.mpr h1]
    by_cases h2 : y = "low"
    · rw [if_pos h2, beq_iff_eq.mpr h2]
    · rw [if_neg h2, beq_eq_false_iff_ne.mpr h2]
      by_cases h3 : y = "value"
      · rw [if_pos h3, beq_iff_eq.mpr h3]
      · rw [if_neg h3, beq_eq_false_iff_ne.mpr h3]
/-- is_number(u, lo, hi), called within a quiet place -/
theorem q_isnum {st : Stmt} {f : Addr} {fd : FuncData} {u : Value} {d : D} {lo hi : Int} {t1 t2 : Tok} {q1 q2 q3 q4 q5 q6 q7 q8 q9 r1 r2 r3 r4 r5 r6 : Pos} (F : Fun K "is_number" "is_number" st f fd) (T : NumTx mg) (S : NumSc (defScope st)) (hb : defBody st = numBody q1 q2 q3 q4 q5 q6 q7 q8 q9 r1 r2 r3 r4 r5 r6)
    (hbd : Binds K fd ["value", "low", "high"] []) (hdp : A.depth < recursionLimit) (md : Mod K mg s.heap) (Z : Kit K u d s.heap) :
    wpAny (model P w) A (call (.ref f) [u, .int lo t1, .int hi t2]) (fun y s' => y = .bool (isN d lo hi) ∧ Keeps s s') E s := by
  obtain ⟨oc, od, kV, doc, pm, an, cdv, ct, osl, rfl, lk, hcd⟩ := F.ex
  refine wpAny_call ?_
  have hl : ([u, .int lo t1, .int hi t2] ++ ([] : List Value)).length = (["value", "low", "high"] : List Str).length := rfl
  refine codeAny_call_function hdp (md.kin _ _ lk) rfl S.co S.gen rfl (PySem.W.codeRec_of md.kin hcd) (hbd s [u, .int lo t1, .int hi t2] md.kin hl _ _ _ _ ?_)
  refine wpAny_newFunctionEnv S.cell (fun y hy => ?_) (fun h' hns hsb => ?_) S.kind
  · have : y = (("value" : Str), u) ∨ y = (("low" : Str), Value.int lo t1) ∨ y = (("high" : Str), Value.int hi t2) := by simpa using hy
    rcases this with rfl | rfl | rfl
    · exact S.v
    · exact S.l
    · exact S.h
  · have kp : ∀ q o, s.heap.get? q = some o → h'.get? q = some o := fun q o e => hsb.extBut q o (Nat.ne_of_lt (Heap.lt_size e)) (Heap.get?_push_of_some _ e)
    have md' : Mod K mg h' := md_keeps md kp
    refine ⟨md'.nolimit, codeAny_func ?_⟩
    show wpAny _ _ (execs (defBody st) _) _ _ _
    rw [hb]
    have q : Qx K mg (newEnv (defScope st) s.heap.objs.size mainGlobals [] ("is_number" ++ ".<locals>.") (some f) cdv none builtinsNs) _ { s with heap := h', toks := s.toks + 3 } := ⟨S.kind, rfl, rfl, md', hns⟩
    have e1 : ((["value", "low", "high"] : List Str).zip [u, .int lo t1, .int hi t2]).reverse.lookup ("value" : Str) = some u := (look3 "value").trans (by rw [if_neg (by decide), if_neg (by decide), if_pos rfl])
    have e2 : ((["value", "low", "high"] : List Str).zip [u, .int lo t1, .int hi t2]).reverse.lookup ("low" : Str) = some (.int lo t1) := (look3 "low").trans (by rw [if_neg (by decide), if_pos rfl])
    have e3 : ((["value", "low", "high"] : List Str).zip [u, .int lo t1, .int hi t2]).reverse.lookup ("high" : Str) = some (.int hi t2) := (look3 "high").trans (by rw [if_pos rfl])
    refine wpAny_mono (num_body (d := d) (lo := lo) (hi := hi) T S q e1 e2 e3 (Z.keeps kp)) (fun fl s' ⟨e, k⟩ => ?_) fun _ _ e => e
    · subst e
      exact ⟨rfl, kp_trans ⟨h', s.toks + 3, rfl, kp⟩ k⟩
end
end DL
end
section
set_option Elab.async false
set_option linter.all false
set_option maxRecDepth 100000
set_option maxHeartbeats 2000000
namespace DL
open PySem PySem.Spec PyProof.Rows L2
section
variable {X : Cx} {b : BC} {pins : List (Addr × Obj)} {σ : L2.St} {ρ : DEnv} {H : Hp} {s s1 : Shared} {Pt C : Addr} {A' : Around} {m : Str → Option Value} {scope : Scope} {code : Value} {xa xb y : Str} {j : Nat} {E : Value → Shared → Prop}
/-- a captured name, read in the generator -/
theorem Ec.cap (e : Ec X b pins σ ρ H s1 Pt A' C s m) {d : D} (hk : scope.kind = .function) (hN : X.N[j]? = some y) (hd : ρ[j]? = some (some (.d d))) (hc : X.env.scope.names.lookup y = some .cell) (hf : scope.names.lookup y = some .free)
    (free : ∀ y ∈ scope.names, y.2 = .free → ∃ c, X.env.cells.lookup y.1 = some c) (h1 : (y == ("__debug__" : Str)) = false := by decide) (h2 : (y == ("__classdict__" : Str)) = false := by decide) :
    ∃ u v, RelV v u ∧ b.Im H v d ∧ ∀ (Q : Value → Shared → Prop) (p : Pos) (s' : Shared), Keeps s s' → Q u s' → wpAny (model X.prog X.w) A' (eval (.Name y p) (gEnv X scope C code)) Q E s' := by
  obtain ⟨v, hv, iv⟩ := e.a.cells j _ hd
  obtain ⟨m0, ns0, h⟩ := e.I.loc
  obtain ⟨u, ru, lk⟩ := h j y v hN hv (.inr (.inl hc))
  rcases lk with ⟨lk, _⟩ | ⟨_, c, lc, ic⟩
  · exact absurd ((show X.env.scope.names.lookup y = some .local from lk).symm.trans hc) (by decide)
  · have hc0 := e.I.freeC y c lc
    obtain ⟨ps, hp⟩ := e.hP
    have hne : c ≠ Pt := fun z => by rw [z, hp] at hc0; cases hc0
    have hmem : (y, NameKind.free) ∈ scope.names := by
      have := List.lookup_eq_some_iff.mp hf
      obtain ⟨l1, l2, e1, _⟩ := this
      rw [e1]; simp
    refine ⟨u, v, ru, iv, fun Q p s' k q => wpAny_Name (wpAny_loadName_free hk hf (NdefX.clo_has free hmem lc) ?_ q h2) h1⟩
    obtain ⟨o, g1, g2⟩ := ic
    exact ⟨o, kp_get k _ _ (e.kp c o hne g1), g2⟩
end
/-- is_number's facts -/
structure NumF (X : Cx) (f : Addr) : Prop where
  ex : ∃ (st : Stmt) (fd : FuncData) (q1 q2 q3 q4 q5 q6 q7 q8 q9 r1 r2 r3 r4 r5 r6 : Pos), Fun X.K "is_number" "is_number" st f fd ∧ NumSc (defScope st) ∧ defBody st = numBody q1 q2 q3 q4 q5 q6 q7 q8 q9 r1 r2 r3 r4 r5 r6 ∧ Binds X.K fd ["value", "low", "high"] []
  tx : NumTx X.mg
  mg : X.mg "is_number" = some (.ref f)
  kp : PySem.W.keepIn X.K (.ref f) = true
def tNum2 : DEnv → D → D → Option Bool := fun _ d1 d2 => match d2 with
  | .int w => if d1.ty.isSome = true then some (isN d1 0 (w - 1)) else none
  | _ => none
def tNum1 (lo : Int) (j : Nat) : DEnv → D → Option Bool := fun ρ d1 => match ρ[j]? with
  | some (some (.d (.int n))) => if d1.ty.isSome = true then some (isN d1 lo n) else none
  | _ => none
section
variable {X : Cx} {b : BC} {scope : Scope} {xa xb y : Str} {k kc kd j : Nat} {f : Addr} {c1 c2 c3 c4 c5 c6 c7 : Pos} {lo : Int}
theorem el_num2 (hr : Room k X.A) (hK : X.K = b.K) (N : NumF X f) (S : GenS2 X.env scope xa xb) (hn : scope.names.lookup ("is_number" : Str) = some .globalImplicit) (ha : (xa == ("__debug__" : Str)) = false := by decide) (hb : (xb == ("__debug__" : Str)) = false := by decide) :
    Elt2 X b scope xa xb (.Call (.Name "is_number" c1) [.Name xa c2, .Constant (.int 0) kc c3, .BinOp (.Name xb c4) .Sub (.Constant (.int 1) kd c5) c6] [] c7) tNum2 := by
  intro pins σ ρ H s1 Pt A' C code s m E' u1 u2 v1 v2 d1 d2 k' e h1 h2 r1 r2 i1 i2 ht
  unfold tNum2 at ht
  split at ht
  · rename_i w
    split at ht
    · rename_i hs
      cases ht
      obtain ⟨t, hty⟩ := Option.isSome_iff_exists.mp hs
      cases i2
      obtain ⟨t2, rfl⟩ := r2
      have q := e.qx (code := code) S.kind
      have kit := e.kit hK i1 r1 hty
      obtain ⟨st, fd, q1, q2, q3, q4, q5, q6, q7, q8, q9, z1, z2, z3, z4, z5, z6, F, Sc, hb', hbd⟩ := N.ex
      refine wpAny_Call_Name_kw (q.glob hn N.mg ?_)
      refine PySem.W.callWith_K (h₀ := X.base) e.I.ok.mod.kin N.kp ?_ (by rfl) (by rfl)
      refine Calls.spliced_cons (q.loc S.la h1 ?_ ha)
      refine Calls.spliced_cons (wpAny_Constant_int (k := kc) (pos := c3) ?_)
      have q' := q.keeps (kp_tok s (s.toks + 1))
      refine Calls.spliced_cons (wpAny_BinOp (q'.loc S.lb h2 (wpAny_Constant_int (k := kd) (pos := c5) (sub_int ?_)) hb))
      refine Calls.spliced_nil ⟨q.md.kin, ?_⟩
      have kq : Keeps s { s with toks := s.toks + 1 + 1 + 1 } := kp_tok s _
      have hd := hr.dp
      have hd2 := e.dp
      exact wpAny_mono (q_isnum (A := A') (E := E') F N.tx Sc hb' hbd (by omega) (q.md) (kit)) (fun y s' ⟨h, k⟩ => ⟨h, kp_trans kq k⟩) fun _ _ e => e
    · cases ht
  · cases ht
theorem el_num1 (hr : Room k X.A) (hK : X.K = b.K) (N : NumF X f) (S : GxR.GenS X.env scope xa) (hn : scope.names.lookup ("is_number" : Str) = some .globalImplicit) (hN : X.N[j]? = some y) (hc : X.env.scope.names.lookup y = some .cell) (hf : scope.names.lookup y = some .free)
    (ha : (xa == ("__debug__" : Str)) = false := by decide) (hb1 : (y == ("__debug__" : Str)) = false := by decide) (hb2 : (y == ("__classdict__" : Str)) = false := by decide) :
    Elt1 X b scope xa (.Call (.Name "is_number" c1) [.Name xa c2, .Constant (.int lo) kc c3, .Name y c4] [] c7) (tNum1 lo j) := by
  intro pins σ ρ H s1 Pt A' C code s m E' u1 v1 d1 k' e h1 r1 i1 ht
  unfold tNum1 at ht
  split at ht
  · rename_i n hρ
    split at ht
    · rename_i hs
      cases ht
      obtain ⟨t, hty⟩ := Option.isSome_iff_exists.mp hs
      have q := e.qx (code := code) S.kind
      have kit := e.kit hK i1 r1 hty
      obtain ⟨st, fd, q1, q2, q3, q4, q5, q6, q7, q8, q9, z1, z2, z3, z4, z5, z6, F, Sc, hb', hbd⟩ := N.ex
      obtain ⟨u2, v2, r2, i2, cap⟩ := e.cap (E := E') (code := code) S.kind hN hρ hc hf S.free hb1 hb2
      cases i2
      obtain ⟨t2, rfl⟩ := r2
      refine wpAny_Call_Name_kw (q.glob hn N.mg ?_)
      refine PySem.W.callWith_K (h₀ := X.base) e.I.ok.mod.kin N.kp ?_ (by rfl) (by rfl)
      refine Calls.spliced_cons (q.loc S.loc h1 ?_ ha)
      refine Calls.spliced_cons (wpAny_Constant_int (k := kc) (pos := c3) ?_)
      refine Calls.spliced_cons (cap _ _ _ (kp_tok s _) ?_)
      refine Calls.spliced_nil ⟨q.md.kin, ?_⟩
      have kq : Keeps s { s with toks := s.toks + 1 } := kp_tok s _
      have hd := hr.dp
      have hd2 := e.dp
      exact wpAny_mono (q_isnum (A := A') (E := E') F N.tx Sc hb' hbd (by omega) (q.md) (kit)) (fun y s' ⟨h, k⟩ => ⟨h, kp_trans kq k⟩) fun _ _ e => e
    · cases ht
  · cases ht
end
section
variable {P : Program} {w : World} {K : PySem.W.Frag} {mg : Str → Option Value} {base : Heap} {tb : List Addr}
/-- fn_d for a def whose code object is known -/
theorem fn_dc {x qual : Str} {st : Stmt} {f c : Addr} {fd : FuncData} {N ps : List Str} {k : Nat} {g : GS} (F : FunC K x qual st f fd c) (S : FnScope N ps (defScope st)) (only : Bool)
    (hb : ∀ (A : Around) (outer : List Env) (s : Shared) (H : Hp) (E : XK) (B : Hp) (pin : Option V) (xc : XC), Room k (A.deeper (envOfC qual (defScope st) s.heap.objs.size f (.ref c))) → (only = true → pin = none) →
      Takes (cxOf (L2.CX P w) P w K mg base N qual (defScope st) f (.ref c) A outer s H E) xc.W → PSs (cxOf (L2.CX P w) P w K mg base N qual (defScope st) f (.ref c) A outer s H E) (defBody st) (tS ⟨P, w, K, mg, B, tb, pin⟩ xc g)) :
    FnOk P w K mg base (L2.CX P w) (k + 1) f fd ps (spF P w K mg tb ps.length only (fnF N.length g)) := by
  obtain ⟨oc, od, kV, doc, pm, an, ct, osl, rfl, lk, hcd⟩ := F.ex
  refine fn_of lk hcd S (fun vs H Q E h => ?_) (fun A outer s H vs Q E hr h => ?_)
  · obtain ⟨cs, e, _⟩ := h
    exact e
  · obtain ⟨cs, hl, ho, h0, a, q⟩ := h
    have hcl : vs.length = cs.length := by
      have := a.len
      simpa using this
    refine ⟨_, hb A outer s H E (hide (ownA vs cs) H) ((ownA vs cs).map .ref) ⟨fun cls d _ H => E cls d H, True⟩ hr (fun o => ?_) (takes_of rfl rfl rfl rfl), ?_⟩
    · show (ownA vs cs).map V.ref = none
      have : ownA vs cs = none := by
        unfold ownA
        split
        · rename_i a0 r c cr
          rw [if_neg]
          intro z
          exact ho o c (by simp) (Cell.isOwn_iff.mp z)
        · rfl
      rw [this]; rfl
    · refine ⟨cs.map some ++ List.replicate (N.length - cs.length) none, ?_, ?_⟩
      · have := at_more a (N.length - cs.length)
        unfold L2.start
        rw [hcl]
        exact this
      · unfold fnF at q
        cases e : g (cs.map some ++ List.replicate (N.length - cs.length) none) with
        | rt d ρ => simp only [e] at q; exact fun v σ' H' a' k' i' => q v H' (Post.of rfl a' k') i'
        | nx ρ => simp only [e] at q; exact fun σ' H' a' k' => q .non H' (Post.of rfl a' k') .non
        | exc e' ρ => simp only [e] at q; exact ⟨trivial, fun cls dx σ' H' a' k' z => q cls dx H' (Post.of rfl a' k') z⟩
        | bk ρ => simp only [e] at q
        | ct ρ => simp only [e] at q
        | stuck => simp only [e] at q
end
end DL
end
section
set_option Elab.async false
set_option linter.all false
set_option maxRecDepth 100000
set_option maxHeartbeats 2000000
namespace DL
open PySem PySem.Spec PyProof.Rows L2
/-! ### dicts with tuple keys -/
def D.kk (d : D) : Option NestedKey := match d with
  | .tup _ => match d.key with
    | some k => if k.depth ≤ 8 then some k else none
    | none => none
  | _ => none
theorem kk_of {d : D} {k : NestedKey} (h : d.kk = some k) : d.key = some k ∧ k.depth ≤ 8 ∧ ∃ xs, d = .tup xs := by
  unfold D.kk at h
  split at h
  · split at h
    · rename_i k' e
      split at h
      · cases h; exact ⟨e, by assumption, _, rfl⟩
      · cases h
    · cases h
  · cases h
def kget : List (D × D) → NestedKey → Option D
  | [], _ => none
  | (k, v) :: r, n => if k.key = some n then some v else kget r n
def kput (kvs : List (D × D)) (n : NestedKey) (k v : D) : List (D × D) :=
  if (kget kvs n).isSome = true then kvs.map (fun p => if p.1.key = some n then (p.1, v) else p) else kvs ++ [(k, v)]
section
variable {P : Program} {w : World} {K : PySem.W.Frag} {H : Hp}
theorem at_im : ∀ {es : List KEnt} {kvs : List (D × D)} (n : NestedKey), ImE P w K H es kvs → (atKey es n = none ∧ kget kvs n = none) ∨ ∃ p x d, atKey es n = some p ∧ kget kvs n = some d ∧ RelV x p.2 ∧ Im P w K H x d
  | _, _, _, .nil => .inl ⟨rfl, rfl⟩
  | _, _, n, .cons (e := e) (es := es) (k := k) (v := v) (kvs := kvs) (x := x) hk ik rx iv r => by
    have ih := at_im n r
    unfold atKey kget
    rw [List.find?_cons, hk]
    by_cases c : e.1 = n
    · subst c
      rw [decide_eq_true rfl]
      exact .inr ⟨_, x, v, rfl, by rw [if_pos rfl], rx, iv⟩
    · rw [decide_eq_false c, if_neg (fun z => c (Option.some.inj z))]
      exact ih
theorem put_im {n : NestedKey} {a : Addr} {k v : D} {x : V} {u : Value} (hk : k.key = some n) (ik : Im P w K H (.ref a) k) (rx : RelV x u) (iv : Im P w K H x v) {es : List KEnt} {kvs : List (D × D)} (r : ImE P w K H es kvs) : ImE P w K H (storedH es n a u) (kput kvs n k v) := by
  have hmap : ∀ {es : List KEnt} {kvs : List (D × D)}, ImE P w K H es kvs → ImE P w K H (es.map (putAt n u)) (kvs.map (fun p => if p.1.key = some n then (p.1, v) else p)) := fun {es kvs} r => by
    induction es generalizing kvs with
    | nil => cases r; exact .nil
    | cons e es ih =>
      cases r with
      | cons h1 h2 h3 h4 r =>
        rw [List.map_cons, List.map_cons]
        unfold putAt
        rw [h1]
        by_cases c : e.1 = n
        · rw [if_pos c, if_pos (by rw [c])]
          exact .cons h1 h2 rx iv (ih r)
        · rw [if_neg c, if_neg (fun z => c (Option.some.inj z))]
          exact .cons h1 h2 h3 h4 (ih r)
  have happ : ∀ {es : List KEnt} {kvs : List (D × D)}, ImE P w K H es kvs → ImE P w K H (es ++ [(n, a, u)]) (kvs ++ [(k, v)]) := fun {es kvs} r => by
    induction es generalizing kvs with
    | nil => cases r; exact .cons hk ik rx iv .nil
    | cons e es ih =>
      cases r with
      | cons h1 h2 h3 h4 r => exact .cons h1 h2 h3 h4 (ih r)
  unfold storedH kput
  rcases at_im n r with ⟨h1, h2⟩ | ⟨p, y, d, h1, h2, _, _⟩
  · rw [h1, h2, if_neg (by simp), if_neg (by simp)]; exact happ r
  · rw [h1, h2, if_pos (show (some p).isSome = true from rfl), if_pos (show (some d).isSome = true from rfl)]; exact hmap r
theorem ImE.length : ∀ {es : List KEnt} {kvs : List (D × D)}, ImE P w K H es kvs → es.length = kvs.length
  | _, _, .nil => rfl
  | _, _, .cons _ _ _ _ r => by rw [List.length_cons, List.length_cons, ImE.length r]
end
theorem kok_put {es : List KEnt} {n : NestedKey} {a : Addr} {u : Value} (h : KOk es) (hd : n.depth ≤ 8) : KOk (storedH es n a u) := by
  unfold storedH
  split
  · have e : (es.map (putAt n u)).map (·.1) = es.map (·.1) := by
      rw [List.map_map]
      refine List.map_congr_left fun x _ => ?_
      show (putAt n u x).1 = x.1
      unfold putAt; split <;> rfl
    refine ⟨by rw [e]; exact h.1, fun x hx => ?_⟩
    obtain ⟨y, hy, rfl⟩ := List.mem_map.mp hx
    have : (putAt n u y).1 = y.1 := by unfold putAt; split <;> rfl
    rw [this]; exact h.2 y hy
  · rename_i c
    have hn : atKey es n = none := by simpa using c
    refine ⟨?_, fun x hx => ?_⟩
    · rw [List.map_append, List.nodup_append]
      refine ⟨h.1, by simp, fun x hx y hy z => ?_⟩
      have : y = n := by simpa using hy
      subst this
      obtain ⟨q, hq, e⟩ := List.mem_map.mp hx
      have e : q.1 = x := e
      unfold atKey at hn
      rw [Option.map_eq_none_iff, List.find?_eq_none] at hn
      exact hn q hq (by simp [e, z])
    · rcases List.mem_append.mp hx with hx | hx
      · exact h.2 x hx
      · have : x = (n, a, u) := by simpa using hx
        rw [this]; exact hd
section
variable {X : Cx} {b : BC} {pins : List (Addr × Obj)} {σ : L2.St} {H : Hp} {s : Shared}
mutual
theorem nest_of (I : Inv X pins σ H s) (hK : X.K = b.K) : ∀ {d : D} {v : V} {u : Value} {n : NestedKey}, b.Im H v d → RelV v u → d.key = some n → NestedIs s.heap n u
  | .non, _, _, _, i, r, e => by cases i; cases r; cases e; exact .none
  | .bl _, _, _, _, _, _, e => by cases e
  | .int _, _, _, _, i, r, e => by cases i; obtain ⟨t, rfl⟩ := r; cases e; exact .int _ _
  | .str _, _, _, _, i, r, e => by cases i; obtain ⟨t, rfl⟩ := r; cases e; exact .text _ _
  | .tup xs, _, u, _, i, r, e => by
    cases i with
    | @tup a vs _ h im =>
      cases (show u = Value.ref a from r)
      unfold D.key at e
      obtain ⟨ks, hk, rfl⟩ := Option.map_eq_some_iff.mp e
      obtain ⟨its, rv, ⟨o, h1, h2, n, h3⟩, _⟩ := I.tuple (by rw [hK]; exact h)
      exact .tup h1 h2 h3 (by simpa using nest_all I hK im rv hk)
  | .lst _, _, _, _, _, _, e => by cases e
  | .dct _, _, _, _, _, _, e => by cases e
  | .op _, _, _, _, _, _, e => by cases e
theorem nest_all (I : Inv X pins σ H s) (hK : X.K = b.K) : ∀ {xs : List D} {vs : List V} {us : List Value} {ks : List NestedKey}, b.ImL H vs xs → Vals vs us → D.keys xs = some ks → NestedAll s.heap ks us
  | [], _, _, _, i, r, e => by cases i; cases r; cases e; exact .nil
  | x :: xs, _, _, _, i, r, e => by
    cases i with
    | cons i1 i2 =>
      cases r with
      | cons r1 r2 =>
        unfold D.keys at e
        split at e
        · rename_i k ks h1 h2
          cases e
          exact .cons (nest_of I hK i1 r1 h1) (nest_all I hK i2 r2 h2)
        · cases e
end

/-- a dict of data stands at a -/
structure DAt (b : BC) (H : Hp) (a : Addr) (es : List KEnt) (ep : Nat) (kvs : List (D × D)) : Prop where
  at_ : H a = some (dctO b.P b.w a es ep) ∨ ∃ o, H a = some (.frz o (dctO b.P b.w a es ep))
  sm : (a == sysModules) = false
  ok : KOk es
  im : b.ImE H es kvs
theorem dct_at {v : V} {kvs : List (D × D)} (i : b.Im H v (.dct kvs)) : ∃ a es ep, v = .ref a ∧ DAt b H a es ep kvs := by
  cases i with
  | dct h1 h2 h3 h4 => exact ⟨_, _, _, rfl, .inr h1, h2, h3, h4⟩
theorem cell_at {v : V} {kvs : List (D × D)} (i : CellAt b H v (.k kvs)) : ∃ a es ep, v = .ref a ∧ b.B a = none ∧ H a = some (dctO b.P b.w a es ep) ∧ DAt b H a es ep kvs := by
  obtain ⟨a, es, ep, rfl, h1, h2, h3, h4, h5⟩ := i
  exact ⟨a, es, ep, rfl, h1, h2, .inl h2, h3, h4, h5⟩
theorem key_is (I : Inv X pins σ H s) (hK : X.K = b.K) {d : D} {a : Addr} {n : NestedKey} (i : b.Im H (.ref a) d) (h : d.kk = some n) {P : Program} {w : World} : (nestedKind P w).is s.heap n a :=
  ⟨nest_of I hK i rfl (kk_of h).1, (kk_of h).2.1⟩
theorem DAt.raw (I : Inv X pins σ H s) (hP : X.prog = b.P) (hw : X.w = b.w) {a : Addr} {es : List KEnt} {ep : Nat} {kvs : List (D × D)} (h : DAt b H a es ep kvs) : s.heap.DictRaw a (es.map (entryOfKey (nestedKind X.prog X.w))).toArray ep := by
  rw [hP, hw]
  rcases h.at_ with h | ⟨o, h⟩
  · obtain ⟨z, _⟩ := (show ObjOk X.prog X.w H s.heap a (dctO b.P b.w a es ep) from I.hok a _ h)
    exact z
  · obtain ⟨_, z, _⟩ := (show ObjOk X.prog X.w H s.heap a (.frz o (dctO b.P b.w a es ep)) from I.hok a _ h)
    exact z
theorem DAt.of (I : Inv X pins σ H s) (hP : X.prog = b.P) (hw : X.w = b.w) (hK : X.K = b.K) {a : Addr} {es : List KEnt} {ep : Nat} {kvs : List (D × D)} (h : DAt b H a es ep kvs) : s.heap.DictOfH (nestedKind X.prog X.w) a es := by
  obtain ⟨o, h1, h2, h3⟩ := h.raw I hP hw
  refine ⟨o, _, ep, h1, h2, h3, by simp, ?_, h.ok.1⟩
  have im := h.im
  have hd := h.ok.2
  clear h h1 h2 h3
  induction es generalizing kvs with
  | nil => intro x hx; cases hx
  | cons e es ih =>
    cases im with
    | cons g1 g2 g3 g4 r =>
      intro x hx
      rcases List.mem_cons.mp hx with rfl | hx
      · exact ⟨nest_of I hK g2 rfl g1, hd _ List.mem_cons_self⟩
      · exact ih r (fun e he => hd e (List.mem_cons_of_mem _ he)) x hx
theorem room8 {A : Around} {k : Nat} (hr : Room k A) {P : Program} {w : World} : (nestedKind P w).room A.in1 := by
  have := hr.un
  show A.units + 1 + 8 < cLine
  omega
end
/-! ### reading dicts that are data -/
def dInK (neg : Bool) : D → D → Option D
  | k, .dct kvs => k.kk.map fun n => .bl (if neg = true then !(kget kvs n).isSome else (kget kvs n).isSome)
  | _, _ => none
def dIxK : D → D → Option D
  | .dct kvs, k => k.kk.bind fun n => kget kvs n
  | _, _ => none
/-- the key, the dict -/
def rInK (b : BC) (neg : Bool) : R2 := fun x y H Q => ∃ a es ep kvs ka kd n, y = .ref a ∧ x = .ref ka ∧ DAt b H a es ep kvs ∧ b.Im H (.ref ka) kd ∧ kd.kk = some n ∧ Q (.bl (if neg = true then !(kget kvs n).isSome else (kget kvs n).isSome)) H
theorem kk_ref {b : BC} {H : Hp} {v : V} {d : D} {n : NestedKey} (i : b.Im H v d) (h : d.kk = some n) : ∃ a, v = .ref a := by
  obtain ⟨_, _, xs, rfl⟩ := kk_of h
  cases i; exact ⟨_, rfl⟩
section
variable {X : Cx} {b : BC} {x : XC} {k : Nat}
theorem op_inK (hr : Room k X.A) (hP : X.prog = b.P) (hw : X.w = b.w) (hK : X.K = b.K) : OpR X (compareOp .In) (rInK b false) := by
  intro pins s σ H x y v u Q I rx ry ⟨a, es, ep, kvs, ka, kd, n, e1, e2, hd, ik, hk, q⟩
  subst e1 e2
  cases rx; cases ry
  refine wpAny_in_heap (room8 hr) (key_is I hK ik hk) hd.sm (hd.of I hP hw hK) ?_
  refine ⟨_, H, I.tok _, ?_, q⟩
  rcases at_im n hd.im with ⟨h1, h2⟩ | ⟨p, y, d, h1, h2, _, _⟩ <;> rw [h1, h2] <;> rfl
theorem op_notInK (hr : Room k X.A) (hP : X.prog = b.P) (hw : X.w = b.w) (hK : X.K = b.K) : OpR X (compareOp .NotIn) (rInK b true) := by
  intro pins s σ H x y v u Q I rx ry ⟨a, es, ep, kvs, ka, kd, n, e1, e2, hd, ik, hk, q⟩
  subst e1 e2
  cases rx; cases ry
  show wpAny _ _ (do return Value.bool (!(← contains (.ref a) (.ref ka)))) _ _ s
  refine wpAny_bind (wpAny_contains_heap (room8 hr) (key_is I hK ik hk) hd.sm (hd.of I hP hw hK) (wpAny_pure ?_))
  refine ⟨_, H, I.tok _, ?_, q⟩
  rcases at_im n hd.im with ⟨h1, h2⟩ | ⟨p, y, d, h1, h2, _, _⟩ <;> rw [h1, h2] <;> rfl
theorem s_inK (b : BC) (neg : Bool) : Sd2 b (rInK b neg) (dInK neg) := fun H v u d1 d2 d Q i1 i2 e q => by
  unfold dInK at e
  split at e
  · obtain ⟨n, hn, rfl⟩ := Option.map_eq_some_iff.mp e
    obtain ⟨a, es, ep, rfl, hd⟩ := dct_at i2
    obtain ⟨ka, rfl⟩ := kk_ref i1 hn
    exact ⟨a, es, ep, _, ka, _, n, rfl, rfl, hd, i1, hn, fin_val q (.bl _)⟩
  · cases e
/-- d[k], d data -/
theorem px_ixK {e0 e1 : Expr} {pos : Pos} {f h : Act D} (hr : Room k X.A) (hP : X.prog = b.P) (hw : X.w = b.w) (hK : X.K = b.K) (h1 : PE X e0 (tD b x f)) (h2 : PE X e1 (tD b x h)) (hs : NoSl e1) : PE X (.Subscript e0 e1 pos) (tD b x (a2 dIxK f h)) := by
  refine ⟨fun pins s σ H Q I ⟨ρ, a0, q⟩ => ?_⟩
  refine subD_of PySem.F.slot_dict_getitem.lookup hs (thn (h1.run pins s σ H (fun v1 H1 => tD b x h σ H1 fun v2 H2 => ∃ a es ep kvs ka kd n d, v1 = .ref a ∧ v2 = .ref ka ∧ DAt b H2 a es ep kvs ∧ b.Im H2 (.ref ka) kd ∧ kd.kk = some n ∧ kget kvs n = some d ∧ ∀ v, b.Im H2 v d → Q v H2) I
    (tD_step (Keep.refl H) a0 q fun d1 ρ1 v1 H1 a1 k1 i1 q1 => tD_step k1 a1 q1 fun d2 ρ2 v2 H2 a2 k2 i2 q2 => ?_)) fun u s1 ⟨v1, H1, I1, r1, q1⟩ => thn (h2.run pins s1 σ H1 _ I1 q1) fun u2 s2 ⟨v2, H2, I2, r2, a, es, ep, kvs, ka, kd, n, d, e1, e2, hd, ik, hk, hg, q2⟩ => ?_)
  · obtain ⟨d, e, q3⟩ := lift_go q2
    unfold dIxK at e
    split at e
    · obtain ⟨n, hn, hg⟩ := Option.bind_eq_some_iff.mp e
      obtain ⟨a, es, ep, rfl, hd⟩ := dct_at (Im.keep k2 i1)
      obtain ⟨ka, rfl⟩ := kk_ref i2 hn
      exact ⟨a, es, ep, _, ka, _, n, d, rfl, rfl, hd, i2, hn, hg, fun v i => q3 v H2 a2 (k1.trans k2) i⟩
    · cases e
  · subst e1 e2
    cases r1; cases r2
    have hD := hd.of I2 hP hw hK
    refine ⟨hD.typeIs, ?_⟩
    rcases at_im n hd.im with ⟨h1, h2⟩ | ⟨p, z, d', h1, h2, rz, iz⟩
    · rw [hg] at h2; cases h2
    · rw [hg] at h2; cases h2
      exact wpAny_getItem_heap (room8 hr) (key_is I2 hK ik hk) hD h1 ⟨z, H2, I2.tok _, rz, q2 z iz⟩
theorem bl_inK {neg : Bool} : ∀ d1 d2 d, dInK neg d1 d2 = some d → ∃ k, d = .bl k := fun d1 d2 d e => by
  unfold dInK at e
  split at e
  · obtain ⟨n, hn, rfl⟩ := Option.map_eq_some_iff.mp e; exact ⟨_, rfl⟩
  · cases e
end
end DL
end
section
set_option Elab.async false
set_option linter.all false
set_option maxRecDepth 100000
set_option maxHeartbeats 2000000
namespace DL
open PySem PySem.Spec PyProof.Rows L2
/-! ### dicts: made, owned, put into -/
theorem dictO_of {P : Program} {w : World} {h : Heap} {a : Addr} {es : List KEnt} (x : h.DictOfH (nestedKind P w) a es) : ∃ ep, ∀ H, ObjOk P w H h a (dctO P w a es ep) := by
  obtain ⟨o, es', ep, ho, hc, hd, he, _⟩ := x
  have e : es' = (es.map (entryOfKey (nestedKind P w))).toArray := by rw [← he]
  exact ⟨ep, fun H => ⟨⟨o, ho, hc, by rw [← e]; exact hd⟩, ⟨o, ho⟩, fun h1 h2 x k => x.at k⟩⟩
/-- a new dict -/
def tK (b : BC) (x : XC) (f : Act (List (D × D))) : TE := fun σ H Q => ∃ ρ, At b σ ρ H ∧ Go b x σ H (f ρ) fun kvs ρ' => ∀ p es ep H', At b σ ρ' H' → Keep H H' → b.B p = none → (∀ (j : Nat) (y : Cell), ρ'[j]? = some (some y) → y.own → σ[j]? ≠ some (some (V.ref p))) → H' p = some (dctO b.P b.w p es ep) → DAt b H' p es ep kvs → Q (.ref p) H'
theorem big_ne {X : Cx} {pins : List (Addr × Obj)} {σ : L2.St} {H : Hp} {s : Shared} (I : Inv X pins σ H s) {a : Addr} (h : s.heap.objs.size ≤ a) : (a == sysModules) = false := by
  have := I.big
  exact beq_eq_false_iff_ne.mpr fun z => absurd (Nat.lt_of_lt_of_le this h) (by rw [z]; exact Nat.lt_irrefl _)
section
variable {X : Cx} {b : BC} {x : XC} {k : Nat} {e e1 e2 : Expr} {pos pos' p : Pos} {f h : Act D} {n : Str} {fk : Act (List (D × D))}
/-- {} -/
theorem px_emptyK (hP : X.prog = b.P) (hw : X.w = b.w) : PE X (.Dict [] [] pos) (tK b x fun ρ => .ok [] ρ) := by
  refine ⟨fun pins s σ H Q I ⟨ρ, a, q⟩ => wpAny_Dict_empty ?_⟩
  have hn := I.hok.fresh (Nat.le_refl s.heap.objs.size)
  obtain ⟨ep, ok⟩ := dictO_of (Heap.DictOfH.new (knd := nestedKind X.prog X.w) s.heap)
  have I1 := I.laid (a := s.heap.objs.size) (h' := s.heap.push { cls := .type "dict", data := .dict #[] }) (t' := s.toks) (fun _ _ q => Heap.get?_push_of_some _ q) (Nat.le_refl _) (ok _)
  have u : Up b.tb H (upd H s.heap.objs.size (dctO X.prog X.w s.heap.objs.size [] ep)) := Up.new hn
  exact ⟨.ref s.heap.objs.size, _, I1, rfl, q _ [] ep _ (a.up u) u.toKeep (a.bNone hn) (a.notNew hn) (by rw [upd_same, hP, hw]) ⟨.inl (by rw [upd_same, hP, hw]), big_ne I (Nat.le_refl _), ⟨List.nodup_nil, fun _ z => by cases z⟩, .nil⟩⟩
/-- fresh, then data -/
@[reducible] def aDct (f : Act (List (D × D))) : Act D := f.bind fun kvs => fun ρ => .ok (.dct kvs) ρ
theorem px_ofK (h : PE X e (tK b x fk)) : PE X e (tD b x (aDct fk)) := (pe_frz h).mono fun σ H Q ⟨ρ, a, q⟩ => by
  refine ⟨ρ, a, q.bind.imp fun kvs ρ1 h1 p es ep H1 a1 k1 hB hn hp hd => ?_⟩
  refine .inr ⟨p, _, rfl, hp, trivial, (fun _ _ _ z => by cases z), fun o => ?_⟩
  have km : Keep H1 (upd H1 p (.frz o (dctO b.P b.w p es ep))) := Keep.mut hp (fun _ z => by cases z) (fun _ _ z => by cases z)
  exact h1 _ _ (a1.other hB hp (fun _ z => by cases z) (fun _ _ z => by cases z) (fun _ z => by cases z) hn) (k1.trans km) (.dct ⟨o, upd_same⟩ hd.sm hd.ok (ImE.keep km hd.im))
/-- d = {..}, owned -/
@[reducible] def gOwnK (i : Nat) (f : Act (List (D × D))) : GS := gOf f fun kvs ρ => .nx (ρ.set i (some (.k kvs)))
theorem tK_S {σ : L2.St} {ρ : DEnv} {H : Hp} {k : List (D × D) → GS} {E : Ends} {R : VK} (a : At b σ ρ H) (q : GoS b x H (gOf fk k ρ) E)
    (hk : ∀ kvs ρ1 p es ep H1, At b σ ρ1 H1 → Keep H H1 → b.B p = none → (∀ (j : Nat) (y : Cell), ρ1[j]? = some (some y) → y.own → σ[j]? ≠ some (some (V.ref p))) → H1 p = some (dctO b.P b.w p es ep) → DAt b H1 p es ep kvs → GoS b x H (k kvs ρ1) E → R (.ref p) H1) : tK b x fk σ H R := by
  rcases gOf_go (σ := σ) q with ⟨kvs, ρ1, e, q1⟩ | ⟨e', ρ1, e2, ho, q1⟩
  · exact ⟨ρ, a, by rw [e]; exact fun p es ep H1 a1 k1 hB hn hp hd => hk kvs ρ1 p es ep H1 a1 k1 hB hn hp hd q1⟩
  · exact ⟨ρ, a, by rw [e2]; exact ⟨ho, fun cls dx H' a1 k1 z => q1 cls dx σ H' a1 k1 z⟩⟩
theorem s_ownK {i : Nat} (hp : b.pin = none ∨ i ≠ 0) (hN : X.N.Nodup) (hi : X.N[i]? = some n) (hx : Loc X.env.scope n) (he : PE X e (tK b x fk)) (hs : swapsWith e (some (.Name n pos')) pos.line X.env = pure false := by rfl)
    (hf : X.fn n = true ∨ X.env.scope.names.lookup n = some .local := by first | exact .inl rfl | exact .inr rfl | assumption) : PS X (.Assign [.Name n pos'] e pos) (tS b x (gOwnK i fk)) :=
  (ps_set hN hi hx he hs hf).mono fun E σ H ⟨ρ, a, q⟩ => tK_S a q fun kvs ρ1 p es ep H1 a1 k1 hB hn hpp hd q1 => q1 _ H1 (a1.adopt hp hn ⟨p, es, ep, rfl, hB, hpp, hd.sm, hd.ok, hd.im⟩) k1
def getK (i : Nat) (ρ : DEnv) : Option (List (D × D)) := match ρ[i]? with
  | some (some (.k xs)) => some xs
  | _ => none
theorem getK_some {i : Nat} {ρ : DEnv} {xs : List (D × D)} (h : getK i ρ = some xs) : ρ[i]? = some (some (.k xs)) := by
  unfold getK at h
  split at h
  · cases h; assumption
  · cases h
/-- the owned dict in slot i is frozen -/
def frzK (i : Nat) (ρ : DEnv) : DEnv := match ρ[i]? with
  | some (some (.k kvs)) => ρ.set i (some (.d (.dct kvs)))
  | _ => ρ
theorem At.frzK {σ : L2.St} {ρ : DEnv} {H : Hp} {i : Nat} {kvs : List (D × D)} {a : Addr} {es : List KEnt} {ep : Nat} {o : Obj} (h : At b σ ρ H) (hi : ρ[i]? = some (some (.k kvs))) (hs : σ[i]? = some (some (.ref a))) (hB : b.B a = none) (hl : H a = some (dctO b.P b.w a es ep)) (hd : DAt b H a es ep kvs) :
    At b σ (ρ.set i (some (.d (.dct kvs)))) (upd H a (.frz o (dctO b.P b.w a es ep))) ∧ Keep H (upd H a (.frz o (dctO b.P b.w a es ep))) := by
  have km : Keep H (upd H a (.frz o (dctO b.P b.w a es ep))) := Keep.mut hl (fun _ z => by cases z) (fun _ _ z => by cases z)
  refine ⟨?_, km⟩
  have h1 := h.forget (i := i)
  have il : i < ρ.length := (List.getElem?_eq_some_iff.mp hi).1
  have h2 : At b σ (ρ.set i none) (upd H a (.frz o (dctO b.P b.w a es ep))) := h1.other hB hl (fun _ z => by cases z) (fun _ _ z => by cases z) (fun _ z => by cases z) fun j y e oy z => by
    by_cases hj : i = j
    · subst hj
      rw [List.getElem?_set_self il] at e; cases e
    · rw [List.getElem?_set_ne hj] at e
      exact h.apart i j (.k kvs) y _ hj hi e trivial oy hs z
  exact {
    ext := h2.ext
    tab := h2.tab
    pin := h2.pin
    len := by rw [List.length_set]; exact h.len
    cells := fun j y e => by
      by_cases hj : i = j
      · subst hj
        rw [List.getElem?_set_self il] at e; cases e
        exact ⟨_, hs, .dct ⟨o, upd_same⟩ hd.sm hd.ok (ImE.keep km hd.im)⟩
      · rw [List.getElem?_set_ne hj] at e
        exact h2.cells j y (by rw [List.getElem?_set_ne hj]; exact e)
    apart := fun j l y z v hjl e1 e2 o1 o2 f1 f2 => by
      by_cases hj : i = j
      · subst hj
        rw [List.getElem?_set_self il] at e1; cases e1; exact o1
      · by_cases hl' : i = l
        · subst hl'
          rw [List.getElem?_set_self il] at e2; cases e2; exact o2
        · rw [List.getElem?_set_ne hj] at e1
          rw [List.getElem?_set_ne hl'] at e2
          exact h.apart j l y z v hjl e1 e2 o1 o2 f1 f2 }
@[reducible] def gFrzK (i : Nat) (g : GS) : GS := fun ρ => g (frzK i ρ)
theorem s_frzK {st : Stmt} {g : GS} (i : Nat) (hst : PS X st (tS b x g)) : PS X st (tS b x (gFrzK i g)) := by
  refine ⟨fun pins s σ H E I ⟨ρ, a, q⟩ => ?_⟩
  replace q : GoS b x H (g (DL.frzK i ρ)) E := q
  unfold DL.frzK at q
  split at q
  · rename_i kvs hx
    obtain ⟨v, hv, cv⟩ := a.cells i _ hx
    obtain ⟨a0, es, ep, rfl, hB, hl, hd⟩ := cell_at cv
    obtain ⟨o, I2⟩ := I.freeze hl trivial (fun _ _ _ z => by cases z)
    obtain ⟨a2, k2⟩ := a.frzK (o := o) hx hv hB hl hd
    exact hst.run pins s σ _ E I2 ⟨_, a2, q.keep k2⟩
  · exact hst.run pins s σ H E I ⟨ρ, a, q⟩
/-- d[k] = v, d owned -/
def rPutK (b : BC) : TSet := fun o i v H Q => ∃ a es ep kvs ka kd n, o = .ref a ∧ i = .ref ka ∧ H a = some (dctO b.P b.w a es ep) ∧ DAt b H a es ep kvs ∧ b.Im H (.ref ka) kd ∧ kd.kk = some n ∧ es.length ≤ sizeLine ∧ ∀ u ep', RelV v u → Q (upd H a (dctO b.P b.w a (storedH es n ka u) ep'))
theorem set_k (hr : Room k X.A) (hP : X.prog = b.P) (hw : X.w = b.w) (hK : X.K = b.K) : PSet X (rPutK b) := by
  intro pins s σ H o i v ov iv u Q I ro ri rv ⟨a, es, ep, kvs, ka, kd, n, e1, e2, hl, hd, ik, hk, hz, q⟩
  subst e1 e2
  cases ro; cases ri
  refine wpAny_setItem_heap (hsz := hz) (room8 hr) (key_is I hK ik hk) (hd.of I hP hw hK) fun h' hD hs => ?_
  obtain ⟨ep', ok⟩ := dictO_of hD
  obtain ⟨ob, _, _, hob, _⟩ := id hD
  rw [hP, hw] at ok
  refine ⟨_, I.write (x := a) (e := a) (o := dctO b.P b.w a (storedH es n ka u) ep') (by rw [hl]; trivial) (.inl rfl) (fun c w hc e => hs.extBut c w hc e) ⟨ob, hob⟩ (by rw [hP, hw]; exact ok _), q u ep' rv⟩
def gPutK (i : Nat) (f h : Act D) : GS := gOf f fun d ρ1 => match getK i ρ1 with
  | none => .stuck
  | some _ => gOf h (fun kd ρ => match getK i ρ, kd.kk with
    | some kvs, some n => if kvs.length ≤ 16000000 then .nx (ρ.set i (some (.k (kput kvs n kd d)))) else .stuck
    | _, _ => .stuck) ρ1
theorem s_putK {o : Expr} (i : Nat) {spos : Pos} (hr : Room k X.A) (hP : X.prog = b.P) (hw : X.w = b.w) (hK : X.K = b.K) (ho : PE X o (tVar i)) (hi : PE X e1 (tD b x h)) (he : PE X e2 (tD b x f))
    (ha : ∀ v, assign (.Subscript o e1 spos) X.env v = (do
      let ov ← holding [v] (eval o X.env)
      let iv ← holding [v, ov] (eval e1 X.env)
      standAt spos
      holding [v, ov, iv] (setItem ov iv v)
      release [v, ov, iv] []) := by intro _; rfl)
    (hs : swapsWithSole [.Subscript o e1 spos] e2 pos.line X.env = pure false := by rfl) (hw' : swappedStores [.Subscript o e1 spos] e2 X.env = pure none := by rfl)
    (h1 : (assignEach [.Subscript o e1 spos] X.env).map (·.2) = [assign (.Subscript o e1 spos) X.env] := by rfl) : PS X (.Assign [.Subscript o e1 spos] e2 pos) (tS b x (gPutK i f h)) :=
  (ps_asg he (pg_sub ho hi (set_k hr hP hw hK) ha) hs hw' h1).mono fun E σ H ⟨ρ, a, q⟩ => tD_S a q fun d ρ1 v H1 a1 k1 i1 q1 => by
    cases e0 : getK i ρ1 with
    | none => rw [e0] at q1; exact q1.elim
    | some xs0 =>
      simp only [e0] at q1
      obtain ⟨v0, hv, cv⟩ := a1.cells i _ (getK_some e0)
      obtain ⟨a0, es, ep, rfl, hB, hl, hd⟩ := cell_at cv
      refine ⟨_, hv, tD_S a1 (q1.keep k1) fun kd ρ2 kv H2 a2 k2 i2 q2 => ?_⟩
      split at q2
      · rename_i kvs n e2 ek
        split at q2
        · rename_i hz
          obtain ⟨v', hv', cv'⟩ := a2.cells i _ (getK_some e2)
          rw [hv] at hv'; cases hv'
          obtain ⟨a0', es', ep', e3, hB', hl', hd'⟩ := cell_at cv'
          cases e3
          obtain ⟨ka, rfl⟩ := kk_ref i2 ek
          refine ⟨a0, es', ep', kvs, ka, kd, n, rfl, rfl, hl', hd', i2, ek, size_line (by rw [ImE.length hd'.im]; exact hz), fun u ep2 ru => ?_⟩
          have km : Keep H2 (upd H2 a0 (dctO b.P b.w a0 (storedH es' n ka u) ep2)) := Keep.mut hl' (fun _ z => by cases z) (fun _ _ z => by cases z)
          exact q2 σ _ (a2.mutate (getK_some e2) trivial hv hB' hl' (fun _ z => by cases z) (fun _ _ z => by cases z) (fun _ z => by cases z) ⟨a0, _, ep2, rfl, hB', upd_same, hd'.sm, kok_put hd'.ok (kk_of ek).2.1, put_im (kk_of ek).1 (Im.keep km i2) ru (Im.keep (k2.trans km) i1) (ImE.keep km hd'.im)⟩ trivial) (k2.trans km)
        · exact q2.elim
      · exact q2.elim
end
end DL
end
section
set_option Elab.async false
set_option linter.all false
set_option maxRecDepth 100000
set_option maxHeartbeats 2000000
namespace DL
open PySem PySem.Spec PyProof.Rows L2
/-! ### dict(d), {k: v}, d.get -/
mutual
def hkN : NestedKey → Option Int
  | .num i => some (hashInt i)
  | .tup ks => (hksN ks).map fun hs => reduceHash (Builtin.Tuple.tupleHashOf hs)
  | _ => none
def hksN : List NestedKey → Option (List Int)
  | [] => some []
  | k :: ks => match hkN k, hksN ks with
    | some h, some hs => some (h :: hs)
    | _, _ => none
end
mutual
theorem hkN_of (w : World) : ∀ {k : NestedKey} {h : Int}, hkN k = some h → k.hash w = h
  | .num i, h, e => by unfold hkN at e; cases e; rfl
  | .tup ks, h, e => by
    unfold hkN at e
    obtain ⟨hs, h1, rfl⟩ := Option.map_eq_some_iff.mp e
    show reduceHash (Builtin.Tuple.tupleHashOf (NestedKey.hashes w ks)) = _
    rw [hksN_of w h1]
  | .none, _, e => by unfold hkN at e; cases e
  | .text _, _, e => by unfold hkN at e; cases e
theorem hksN_of (w : World) : ∀ {ks : List NestedKey} {hs : List Int}, hksN ks = some hs → NestedKey.hashes w ks = hs
  | [], _, e => by unfold hksN at e; cases e; rfl
  | k :: ks, _, e => by
    unfold hksN at e
    split at e
    · rename_i h hs h1 h2
      cases e
      show NestedKey.hash w k :: NestedKey.hashes w ks = _
      rw [hkN_of w h1, hksN_of w h2]
    · cases e
end
/-- no two keys hash alike -/
def hashOk (kvs : List (D × D)) : Bool := (kvs.all fun p => (p.1.key.bind hkN).isSome) && decide ((kvs.map fun p => (p.1.key.bind hkN).getD 0).Nodup)
theorem hash_im {P : Program} {w : World} {K : PySem.W.Frag} {H : Hp} {es : List KEnt} {kvs : List (D × D)} (im : ImE P w K H es kvs) (h : hashOk kvs = true) : (es.map fun x => (nestedKind P w).hash x.1).Nodup := by
  unfold hashOk at h
  rw [Bool.and_eq_true] at h
  have h2 := of_decide_eq_true h.2
  have h1 := List.all_eq_true.mp h.1
  have e : ∀ {es : List KEnt} {kvs : List (D × D)}, ImE P w K H es kvs → (∀ p ∈ kvs, (p.1.key.bind hkN).isSome = true) → es.map (fun x => (nestedKind P w).hash x.1) = kvs.map fun p => (p.1.key.bind hkN).getD 0 := fun {es kvs} im => by
    induction es generalizing kvs with
    | nil => cases im; intro _; rfl
    | cons e es ih =>
      cases im with
      | cons g1 g2 g3 g4 r =>
        intro hh
        rw [List.map_cons, List.map_cons, ih r fun p hp => hh p (List.mem_cons_of_mem _ hp)]
        have := hh _ List.mem_cons_self
        rw [g1] at this ⊢
        obtain ⟨hv, e2⟩ := Option.isSome_iff_exists.mp this
        rw [e2]
        have e3 : hkN e.1 = some hv := e2
        show NestedKey.hash w e.1 :: _ = _
        rw [hkN_of w e3]; rfl
  rw [e im h1]; exact h2
section
variable {prog : Program} {w : World} {K : Type} [DecidableEq K] {knd : HeapKind prog w K} {A : Around} {E : Value → Shared → Prop} {s : Shared}
theorem call_dict_copyH {d : Addr} {xs : List (K × Addr × Value)} {Q : Value → Shared → Prop} (hu : knd.room A.in1.in1) (hoS : (d == sysModules) = false) (st : knd.Stays)
    (hm : s.heap.DictOfH knd d xs) (hap : (xs.map fun x => knd.hash x.1).Nodup) (hsz : xs.length ≤ sizeLine)
    (h : ∀ h', h'.DictOfH knd s.heap.objs.size xs → (∀ b o, s.heap.get? b = some o → h'.get? b = some o) → Q (.ref s.heap.objs.size) { s with heap := h' }) :
    wpAny (model prog w) A (call (.type "dict") [.ref d]) Q E s := by
  refine callType_codes (Q₁ := fun obj s₁ => obj = .ref s.heap.objs.size ∧ s₁ = { s with heap := s.heap.push { cls := .type "dict", data := .dict #[] } }) F.kt_called_dict (F.kt_typeCall_dict_1 _) F.entry_dict_init (kt_code_dict_new _ ⟨rfl, rfl⟩) ?_
  rintro obj s₁ ⟨rfl, rfl⟩
  have hT : Shared.TypeIs { s with heap := s.heap.push { cls := .type "dict", data := .dict #[] } } (.ref s.heap.objs.size) "dict" := ⟨_, Heap.get?_push_size _ rfl, rfl⟩
  have hkp : ∀ b o, s.heap.get? b = some o → (s.heap.push { cls := .type "dict", data := .dict #[] }).get? b = some o := fun b o e => Heap.get?_push_of_some _ e
  have hm2 : (s.heap.push { cls := .type "dict", data := .dict #[] }).DictOfH knd d xs := by
    obtain ⟨_, _, _, _, _, _, _, his, _⟩ := id hm
    exact hm.at' (fun o e => hkp d o e) fun y hy => st.stays (fun b o _ _ e _ => hkp b o e) (his y hy)
  refine ⟨hT, F.args_dict_init_2 _ _, ?_⟩
  unfold Builtin.«dict.__init__»
  refine wpAny_bind ?_
  unfold Builtin.Dict.selfAndRest
  refine wpAny_bind (wpAny_notOrdered_dict hT ?_)
  show wpAny _ _ (pure (s.heap.objs.size, [Value.ref d])) _ _ _
  refine wpAny_pure ?_
  have hdlt := hm.lt_size
  refine updateFrom_dictH (s := { s with heap := s.heap.push { cls := .type "dict", data := .dict #[] } }) .none hu (fun z => Nat.lt_irrefl _ (by rw [← z] at hdlt; exact hdlt)) hoS (Heap.DictOfH.new s.heap) hm2 (.inr ⟨keyed_apart st hm2, hap⟩) (by simpa using hsz) fun h' hd' ho' hs' => ?_
  rw [storedAllH_nil_of_nodup xs hm.nodup] at hd'
  exact ⟨rfl, h h' hd' fun b o e => hs'.extBut b o (Nat.ne_of_lt (Heap.lt_size e)) (hkp b o e)⟩
end
section
variable {X : Cx} {b : BC} {x : XC} {k : Nat} {e e1 e2 : Expr} {pos pos' p apos cpos : Pos} {f h : Act D} {n : Str} {fk : Act (List (D × D))}
theorem room8' {A : Around} {k : Nat} (hr : Room k A) {P : Program} {w : World} : (nestedKind P w).room A.in1.in1 := by
  have := hr.un
  show A.units + 1 + 1 + 8 < cLine
  omega
@[reducible] def aCopy (f : Act D) : Act (List (D × D)) := f.bind fun d ρ => match d with
  | .dct kvs => if hashOk kvs = true ∧ kvs.length ≤ 16000000 then .ok kvs ρ else .stuck
  | _ => .stuck
theorem px_copyK (hr : Room k X.A) (hP : X.prog = b.P) (hw : X.w = b.w) (hK : X.K = b.K) (hg : Gl X "dict") (hm : X.mg "dict" = none) (h1 : PE X e (tD b x f)) (he : starEach [e] X.env = (false, eval e X.env) :: starEach [] X.env := by rfl) : PE X (.Call (.Name "dict" p) [e] [] pos) (tK b x (aCopy f)) := by
  refine ⟨fun pins s σ H Q I ⟨ρ, a0, q⟩ => ?_⟩
  refine wpAny_Call_Name_kw (ld_blt I hg hm (by decide +kernel : bootBuiltins "dict" = some (.type "dict")) ?_)
  refine PyProof.Rows.callWith_type1 (thn ((pa_cons h1 pa_nil he).run pos pins s σ H (fun vs H1 => ∃ a es ep kvs ρ1, vs = [.ref a] ∧ At b σ ρ1 H1 ∧ Keep H H1 ∧ DAt b H1 a es ep kvs ∧ hashOk kvs = true ∧ kvs.length ≤ 16000000 ∧ ∀ p es ep H', At b σ ρ1 H' → Keep H H' → b.B p = none → (∀ (j : Nat) (y : Cell), ρ1[j]? = some (some y) → y.own → σ[j]? ≠ some (some (V.ref p))) → H' p = some (dctO b.P b.w p es ep) → DAt b H' p es ep kvs → Q (.ref p) H') I
    (tD_step (Keep.refl H) a0 q fun d ρ1 v H1 a1 k1 i1 q1 => ?_)) fun us s1 ⟨vs, H1, I1, r1, a, es, ep, kvs, ρ1, ev, a1, k1, hd, hh, hz, q1⟩ => ?_) he (by rfl)
  · cases d with
    | dct kvs =>
      by_cases hc : hashOk kvs = true ∧ kvs.length ≤ 16000000
      · replace q1 : Go b x σ H (if hashOk kvs = true ∧ kvs.length ≤ 16000000 then .ok kvs ρ1 else .stuck) _ := q1
        rw [if_pos hc] at q1
        obtain ⟨a, es, ep, rfl, hd⟩ := dct_at i1
        exact ⟨a, es, ep, kvs, ρ1, rfl, a1, k1, hd, hc.1, hc.2, q1⟩
      · replace q1 : Go b x σ H (if hashOk kvs = true ∧ kvs.length ≤ 16000000 then .ok kvs ρ1 else .stuck) _ := q1
        rw [if_neg hc] at q1
        exact q1.elim
    | _ => exact q1.elim
  · subst ev
    cases r1 with
    | cons r rr =>
      cases rr
      cases r
      have hD := hd.of I1 hP hw hK
      refine call_dict_copyH (room8' hr) hd.sm nestedKind_stays hD (hash_im (by rw [hP, hw]; exact hd.im) hh) (size_line (by rw [ImE.length hd.im]; exact hz)) fun h' hD' hk => ?_
      have hn := I1.hok.fresh (Nat.le_refl s1.heap.objs.size)
      obtain ⟨ep', ok⟩ := dictO_of hD'
      rw [hP, hw] at ok
      have I2 := I1.laid (a := s1.heap.objs.size) (o := dctO b.P b.w s1.heap.objs.size es ep') (h' := h') (t' := s1.toks) hk (Nat.le_refl _) (by rw [hP, hw]; exact ok _)
      have u : Up b.tb H1 (upd H1 s1.heap.objs.size (dctO b.P b.w s1.heap.objs.size es ep')) := Up.new hn
      exact ⟨.ref s1.heap.objs.size, _, I2, rfl, q1 _ es ep' _ (a1.up u) (k1.trans u.toKeep) (a1.bNone hn) (a1.notNew hn) upd_same ⟨.inl upd_same, big_ne I1 (Nat.le_refl _), hd.ok, ImE.keep u.toKeep hd.im⟩⟩
end
end DL
end
section
set_option Elab.async false
set_option linter.all false
set_option maxRecDepth 100000
set_option maxHeartbeats 2000000
namespace DL
open PySem PySem.Spec PyProof.Rows L2
def asK : D → Option (List (D × D))
  | .dct kvs => some kvs
  | _ => none
def dGet (kvs : List (D × D)) (k z : D) : Option D := k.kk.map fun n => (kget kvs n).getD z
theorem dct_asK {b : BC} {H : Hp} {v : V} {d : D} {kvs : List (D × D)} (i : b.Im H v d) (e : asK d = some kvs) : d = .dct kvs := by
  cases d with
  | dct _ => cases e; rfl
  | _ => cases e
@[reducible] def aGet1 (f g : Act D) : Act D := f.bind fun d => (lift (asK d)).bind fun kvs => g.bind fun k => lift (dGet kvs k .non)
@[reducible] def aGet2 (f g h : Act D) : Act D := f.bind fun d => (lift (asK d)).bind fun kvs => g.bind fun k => h.bind fun z => lift (dGet kvs k z)
theorem noDict_of {h : Heap} {a : Addr} {P : Program} {w : World} {es : List KEnt} (x : h.DictOfH (nestedKind P w) a es) : ∀ c, Value.ref a = .ref c → ∃ ob, h.get? c = some ob ∧ ob.dict = none := fun c e => by
  cases e
  obtain ⟨o, _, _, ho, hc, _⟩ := x
  exact ⟨o, ho, hc.2.1⟩
section
variable {X : Cx} {b : BC} {x : XC} {k : Nat} {e o e1 e2 : Expr} {pos pos' p apos cpos : Pos} {f g h : Act D} {n : Str} {fk : Act (List (D × D))}
/-- d.get(k), d data -/
theorem px_get1 (hr : Room k X.A) (hP : X.prog = b.P) (hw : X.w = b.w) (hK : X.K = b.K) (ho : PE X o (tD b x f)) (h1 : PE X e1 (tD b x g))
    (hbase : attributeBase o "get" X.env (eval o X.env) = eval o X.env := by rfl)
    (hfew : ((backTo cpos (starEach [e1] X.env)).all (fun x => !x.1) && (backToKw cpos (keywordEach [] X.env)).all (fun x => x.1.isSome)
      && decide (([e1] : List Expr).length + ([] : List Keyword).length + (if ([] : List Keyword).isEmpty then 0 else 1) < 30)) = true := by rfl)
    (hline : (apos.endLine == cpos.line) = true := by rfl) (he : starEach [e1] X.env = (false, eval e1 X.env) :: starEach [] X.env := by rfl) :
    PE X (.Call (.Attribute o "get" apos) [e1] [] cpos) (tD b x (aGet1 f g)) := by
  refine ⟨fun pins s σ H Q I ⟨ρ, a0, q⟩ => ?_⟩
  refine wpAny_Call_method_late hbase hfew hline rfl (thn (ho.run pins s σ H (fun v1 H1 => ∃ a es ep kvs, v1 = .ref a ∧ DAt b H1 a es ep kvs ∧ tD b x g σ H1 fun v2 H2 => ∃ a' es ep kvs ka kd n, V.ref a = .ref a' ∧ v2 = .ref ka ∧ DAt b H2 a' es ep kvs ∧ b.Im H2 (.ref ka) kd ∧ kd.kk = some n ∧ ∀ v, b.Im H2 v ((kget kvs n).getD .non) → Q v H2) I
    (tD_step (Keep.refl H) a0 q fun d1 ρ1 v1 H1 a1 k1 i1 q1 => ?_)) fun u s1 ⟨v1, H1, I1, r1, a, es, ep, kvs, e1', hd, q1⟩ => ?_)
  · obtain ⟨kvs, ek, q1⟩ := lift_go q1.bind
    cases dct_asK i1 ek
    obtain ⟨a, es, ep, rfl, hd⟩ := dct_at i1
    refine ⟨a, es, ep, kvs, rfl, hd, tD_step k1 a1 q1 fun d2 ρ2 v2 H2 a2 k2 i2 q2 => ?_⟩
    obtain ⟨d, e, q3⟩ := lift_go q2
    obtain ⟨n, hn, rfl⟩ := Option.map_eq_some_iff.mp e
    obtain ⟨a', es', ep', e3, hd'⟩ := dct_at (Im.keep k2 i1)
    obtain ⟨ka, rfl⟩ := kk_ref i2 hn
    exact ⟨a', es', ep', kvs, ka, _, n, e3, rfl, hd', i2, hn, fun v i => q3 v H2 a2 (k1.trans k2) i⟩
  · subst e1'
    cases r1
    have hD := hd.of I1 hP hw hK
    refine ⟨"dict", "dict.get", PySem.F.plainAttrs_dict, PySem.F.slot_dict_get, PySem.F.type_dict_get, hD.typeIs, noDict_of hD, ?_⟩
    rw [he]
    show wpAny _ _ (callWith cpos (.builtin "dict.get") [.ref a] [(false, eval e1 X.env)] []) _ _ _
    refine wpAny_dict_get1_heap (knd := nestedKind X.prog X.w) (room8 hr) hd.sm (thn (h1.run pins s1 σ H1 _ I1 q1) fun u2 s2 ⟨v2, H2, I2, r2, a', es, ep, kvs, ka, kd, n, e3, e4, hd2, ik, hk, q2⟩ => ?_)
    cases e3
    subst e4
    cases r2
    refine ⟨ka, n, es, rfl, key_is I2 hK ik hk, hd2.of I2 hP hw hK, ?_⟩
    rcases at_im n hd2.im with ⟨h1, h2⟩ | ⟨p, z, d', h1, h2, rz, iz⟩
    · rw [h1]
      exact ⟨.non, H2, I2.tok _, rfl, q2 .non (by rw [h2]; exact .non)⟩
    · rw [h1]
      exact ⟨z, H2, I2.tok _, rz, q2 z (by rw [h2]; exact iz)⟩
/-- d.get(k, z), d data -/
theorem px_get2 (hr : Room k X.A) (hP : X.prog = b.P) (hw : X.w = b.w) (hK : X.K = b.K) (ho : PE X o (tD b x f)) (h1 : PE X e1 (tD b x g)) (h2 : PE X e2 (tD b x h))
    (hbase : attributeBase o "get" X.env (eval o X.env) = eval o X.env := by rfl)
    (hfew : ((backTo cpos (starEach [e1, e2] X.env)).all (fun x => !x.1) && (backToKw cpos (keywordEach [] X.env)).all (fun x => x.1.isSome)
      && decide (([e1, e2] : List Expr).length + ([] : List Keyword).length + (if ([] : List Keyword).isEmpty then 0 else 1) < 30)) = true := by rfl)
    (hline : (apos.endLine == cpos.line) = true := by rfl) (he : starEach [e1, e2] X.env = (false, eval e1 X.env) :: starEach [e2] X.env := by rfl) (he2 : starEach [e2] X.env = (false, eval e2 X.env) :: starEach [] X.env := by rfl) :
    PE X (.Call (.Attribute o "get" apos) [e1, e2] [] cpos) (tD b x (aGet2 f g h)) := by
  refine ⟨fun pins s σ H Q I ⟨ρ, a0, q⟩ => ?_⟩
  refine wpAny_Call_method_late hbase hfew hline rfl (thn (ho.run pins s σ H (fun v1 H1 => ∃ a es ep kvs, v1 = .ref a ∧ DAt b H1 a es ep kvs ∧ tD b x g σ H1 fun v2 H2 => tD b x h σ H2 fun v3 H3 => ∃ a' es ep kvs ka kd n zd, V.ref a = .ref a' ∧ v2 = .ref ka ∧ DAt b H3 a' es ep kvs ∧ b.Im H3 (.ref ka) kd ∧ kd.kk = some n ∧ b.Im H3 v3 zd ∧ ∀ v, b.Im H3 v ((kget kvs n).getD zd) → Q v H3) I
    (tD_step (Keep.refl H) a0 q fun d1 ρ1 v1 H1 a1 k1 i1 q1 => ?_)) fun u s1 ⟨v1, H1, I1, r1, a, es, ep, kvs, e1', hd, q1⟩ => ?_)
  · obtain ⟨kvs, ek, q1⟩ := lift_go q1.bind
    cases dct_asK i1 ek
    obtain ⟨a, es, ep, rfl, hd⟩ := dct_at i1
    refine ⟨a, es, ep, kvs, rfl, hd, tD_step k1 a1 q1 fun d2 ρ2 v2 H2 a2 k2 i2 q2 => tD_step (k1.trans k2) a2 q2 fun d3 ρ3 v3 H3 a3 k3 i3 q3 => ?_⟩
    obtain ⟨d, e, q4⟩ := lift_go q3
    obtain ⟨n, hn, rfl⟩ := Option.map_eq_some_iff.mp e
    obtain ⟨a', es', ep', e3, hd'⟩ := dct_at (Im.keep (k2.trans k3) i1)
    obtain ⟨ka, rfl⟩ := kk_ref i2 hn
    exact ⟨a', es', ep', kvs, ka, _, n, _, e3, rfl, hd', Im.keep k3 i2, hn, i3, fun v i => q4 v H3 a3 ((k1.trans k2).trans k3) i⟩
  · subst e1'
    cases r1
    have hD := hd.of I1 hP hw hK
    refine ⟨"dict", "dict.get", PySem.F.plainAttrs_dict, PySem.F.slot_dict_get, PySem.F.type_dict_get, hD.typeIs, noDict_of hD, ?_⟩
    rw [he, he2]
    show wpAny _ _ (callWith cpos (.builtin "dict.get") [.ref a] [(false, eval e1 X.env), (false, eval e2 X.env)] []) _ _ _
    refine wpAny_dict_get2_heap (knd := nestedKind X.prog X.w) (room8 hr) hd.sm (thn (h1.run pins s1 σ H1 _ I1 q1) fun u2 s2 ⟨v2, H2, I2, r2, q2⟩ => thn (h2.run pins s2 σ H2 _ I2 q2) fun u3 s3 ⟨v3, H3, I3, r3, a', es, ep, kvs, ka, kd, n, zd, e3, e4, hd2, ik, hk, iz0, q3⟩ => ?_)
    cases e3
    subst e4
    cases r2
    refine ⟨ka, n, es, rfl, key_is I3 hK ik hk, hd2.of I3 hP hw hK, ?_⟩
    rcases at_im n hd2.im with ⟨h1, h2⟩ | ⟨p, z, d', h1, h2, rz, iz⟩
    · rw [h1]
      exact ⟨v3, H3, I3.tok _, r3, q3 v3 (by rw [h2]; exact iz0)⟩
    · rw [h1]
      exact ⟨z, H3, I3.tok _, rz, q3 z (by rw [h2]; exact iz)⟩
/-- d.get(k, z), d owned -/
@[reducible] def aGet2O (i : Nat) (g h : Act D) : Act D := fun ρ0 => match getK i ρ0 with
  | none => .stuck
  | some _ => (g.bind fun k => h.bind fun z ρ => match getK i ρ with
    | some kvs => lift (dGet kvs k z) ρ
    | none => .stuck) ρ0
theorem px_get2O (i : Nat) (hr : Room k X.A) (hP : X.prog = b.P) (hw : X.w = b.w) (hK : X.K = b.K) (ho : PE X o (tVar i)) (h1 : PE X e1 (tD b x g)) (h2 : PE X e2 (tD b x h))
    (hbase : attributeBase o "get" X.env (eval o X.env) = eval o X.env := by rfl)
    (hfew : ((backTo cpos (starEach [e1, e2] X.env)).all (fun x => !x.1) && (backToKw cpos (keywordEach [] X.env)).all (fun x => x.1.isSome)
      && decide (([e1, e2] : List Expr).length + ([] : List Keyword).length + (if ([] : List Keyword).isEmpty then 0 else 1) < 30)) = true := by rfl)
    (hline : (apos.endLine == cpos.line) = true := by rfl) (he : starEach [e1, e2] X.env = (false, eval e1 X.env) :: starEach [e2] X.env := by rfl) (he2 : starEach [e2] X.env = (false, eval e2 X.env) :: starEach [] X.env := by rfl) :
    PE X (.Call (.Attribute o "get" apos) [e1, e2] [] cpos) (tD b x (aGet2O i g h)) := by
  refine ⟨fun pins s σ H Q I ⟨ρ, a0, q⟩ => ?_⟩
  refine wpAny_Call_method_late hbase hfew hline rfl (thn (ho.run pins s σ H (fun v1 H1 => ∃ a es ep kvs, v1 = .ref a ∧ DAt b H1 a es ep kvs ∧ tD b x g σ H1 fun v2 H2 => tD b x h σ H2 fun v3 H3 => ∃ a' es ep kvs ka kd n zd, V.ref a = .ref a' ∧ v2 = .ref ka ∧ DAt b H3 a' es ep kvs ∧ b.Im H3 (.ref ka) kd ∧ kd.kk = some n ∧ b.Im H3 v3 zd ∧ ∀ v, b.Im H3 v ((kget kvs n).getD zd) → Q v H3) I
    ?_) fun u s1 ⟨v1, H1, I1, r1, a, es, ep, kvs, e1', hd, q1⟩ => ?_)
  · unfold aGet2O at q
    cases e0 : getK i ρ with
    | none => rw [e0] at q; exact q.elim
    | some kvs0 =>
      rw [e0] at q
      obtain ⟨v, hv, cv⟩ := a0.cells i _ (getK_some e0)
      obtain ⟨a, es, ep, rfl, hB, hl, hd⟩ := cell_at cv
      refine ⟨_, hv, a, es, ep, kvs0, rfl, hd, tD_step (Keep.refl H) a0 q fun d2 ρ2 v2 H2 a2 k2 i2 q2 => tD_step k2 a2 q2 fun d3 ρ3 v3 H3 a3 k3 i3 q3 => ?_⟩
      cases e1 : getK i ρ3 with
      | none => simp only [e1] at q3; exact q3.elim
      | some kvs =>
        simp only [e1] at q3
        obtain ⟨d, e, q4⟩ := lift_go q3
        obtain ⟨n, hn, rfl⟩ := Option.map_eq_some_iff.mp e
        obtain ⟨v', hv', cv'⟩ := a3.cells i _ (getK_some e1)
        rw [hv] at hv'; cases hv'
        obtain ⟨a', es', ep', e3, hB', hl', hd'⟩ := cell_at cv'
        obtain ⟨ka, rfl⟩ := kk_ref i2 hn
        exact ⟨a', es', ep', kvs, ka, _, n, _, e3, rfl, hd', Im.keep k3 i2, hn, i3, fun v i => q4 v H3 a3 (k2.trans k3) i⟩
  · subst e1'
    cases r1
    have hD := hd.of I1 hP hw hK
    refine ⟨"dict", "dict.get", PySem.F.plainAttrs_dict, PySem.F.slot_dict_get, PySem.F.type_dict_get, hD.typeIs, noDict_of hD, ?_⟩
    rw [he, he2]
    show wpAny _ _ (callWith cpos (.builtin "dict.get") [.ref a] [(false, eval e1 X.env), (false, eval e2 X.env)] []) _ _ _
    refine wpAny_dict_get2_heap (knd := nestedKind X.prog X.w) (room8 hr) hd.sm (thn (h1.run pins s1 σ H1 _ I1 q1) fun u2 s2 ⟨v2, H2, I2, r2, q2⟩ => thn (h2.run pins s2 σ H2 _ I2 q2) fun u3 s3 ⟨v3, H3, I3, r3, a', es, ep, kvs, ka, kd, n, zd, e3, e4, hd2, ik, hk, iz0, q3⟩ => ?_)
    cases e3
    subst e4
    cases r2
    refine ⟨ka, n, es, rfl, key_is I3 hK ik hk, hd2.of I3 hP hw hK, ?_⟩
    rcases at_im n hd2.im with ⟨h1, h2⟩ | ⟨p, z, d', h1, h2, rz, iz⟩
    · rw [h1]
      exact ⟨v3, H3, I3.tok _, r3, q3 v3 (by rw [h2]; exact iz0)⟩
    · rw [h1]
      exact ⟨z, H3, I3.tok _, rz, q3 z (by rw [h2]; exact iz)⟩
/-- d[k], d owned -/
@[reducible] def aIxKO (i : Nat) (g : Act D) : Act D := fun ρ0 => match getK i ρ0 with
  | none => .stuck
  | some _ => (g.bind fun k ρ => match getK i ρ with
    | some kvs => lift (k.kk.bind fun n => kget kvs n) ρ
    | none => .stuck) ρ0
theorem px_ixKO (i : Nat) (hr : Room k X.A) (hP : X.prog = b.P) (hw : X.w = b.w) (hK : X.K = b.K) (ho : PE X o (tVar i)) (h1 : PE X e1 (tD b x g)) (hs : NoSl e1) : PE X (.Subscript o e1 pos) (tD b x (aIxKO i g)) := by
  refine ⟨fun pins s σ H Q I ⟨ρ, a0, q⟩ => ?_⟩
  refine subD_of PySem.F.slot_dict_getitem.lookup hs (thn (ho.run pins s σ H (fun v1 H1 => tD b x g σ H1 fun v2 H2 => ∃ a es ep kvs ka kd n d, v1 = .ref a ∧ v2 = .ref ka ∧ DAt b H2 a es ep kvs ∧ b.Im H2 (.ref ka) kd ∧ kd.kk = some n ∧ kget kvs n = some d ∧ ∀ v, b.Im H2 v d → Q v H2) I ?_)
    fun u s1 ⟨v1, H1, I1, r1, q1⟩ => thn (h1.run pins s1 σ H1 _ I1 q1) fun u2 s2 ⟨v2, H2, I2, r2, a, es, ep, kvs, ka, kd, n, d, e1, e2, hd, ik, hk, hg, q2⟩ => ?_)
  · unfold aIxKO at q
    cases e0 : getK i ρ with
    | none => rw [e0] at q; exact q.elim
    | some kvs0 =>
      rw [e0] at q
      obtain ⟨v, hv, cv⟩ := a0.cells i _ (getK_some e0)
      refine ⟨_, hv, tD_step (Keep.refl H) a0 q fun d2 ρ2 v2 H2 a2 k2 i2 q2 => ?_⟩
      cases e1 : getK i ρ2 with
      | none => simp only [e1] at q2; exact q2.elim
      | some kvs =>
        simp only [e1] at q2
        obtain ⟨d, e, q4⟩ := lift_go q2
        obtain ⟨n, hn, hg⟩ := Option.bind_eq_some_iff.mp e
        obtain ⟨v', hv', cv'⟩ := a2.cells i _ (getK_some e1)
        rw [hv] at hv'; cases hv'
        obtain ⟨a', es', ep', rfl, hB', hl', hd'⟩ := cell_at cv'
        obtain ⟨ka, rfl⟩ := kk_ref i2 hn
        exact ⟨a', es', ep', kvs, ka, _, n, d, rfl, rfl, hd', i2, hn, hg, fun v i => q4 v H2 a2 k2 i⟩
  · subst e1 e2
    cases r1; cases r2
    have hD := hd.of I2 hP hw hK
    refine ⟨hD.typeIs, ?_⟩
    rcases at_im n hd.im with ⟨h1, h2⟩ | ⟨p, z, d', h1, h2, rz, iz⟩
    · rw [hg] at h2; cases h2
    · rw [hg] at h2; cases h2
      exact wpAny_getItem_heap (room8 hr) (key_is I2 hK ik hk) hD h1 ⟨z, H2, I2.tok _, rz, q2 z iz⟩
/-- k not in d, k in d, d owned -/
@[reducible] def aInKO (neg : Bool) (i : Nat) (g : Act D) : Act D := g.bind fun k ρ => match getK i ρ with
    | some kvs => lift (dInK neg k (.dct kvs)) ρ
    | none => .stuck
theorem px_inKO (i : Nat) {op : CmpOp} {neg : Bool} (hop : OpR X (compareOp op) (rInK b neg)) (ho : PE X o (tVar i)) (h1 : PE X e1 (tD b x g)) (hm : lastMarks [op] [o] = false := by with_unfolding_all rfl) : PE X (.Compare e1 [op] [o] pos) (tD b x (aInKO neg i g)) :=
  (pe_frz (pe_cmpR hop h1 ho hm)).mono fun σ H Q ⟨ρ, a0, q⟩ => tD_step (Keep.refl H) a0 q fun d2 ρ2 v2 H2 a2 k2 i2 q2 => by
    cases e1 : getK i ρ2 with
    | none => simp only [e1] at q2; exact q2.elim
    | some kvs =>
      simp only [e1] at q2
      obtain ⟨d, e, q4⟩ := lift_go q2
      obtain ⟨n, hn, rfl⟩ := Option.map_eq_some_iff.mp e
      obtain ⟨v', hv', cv'⟩ := a2.cells i _ (getK_some e1)
      obtain ⟨a', es', ep', rfl, hB', hl', hd'⟩ := cell_at cv'
      obtain ⟨ka, rfl⟩ := kk_ref i2 hn
      exact ⟨_, hv', a', es', ep', kvs, ka, _, n, rfl, rfl, hd', i2, hn, .inl (q4 _ H2 a2 k2 (.bl _))⟩
end
end DL
end
section
set_option Elab.async false
set_option linter.all false
set_option maxRecDepth 100000
set_option maxHeartbeats 2000000
namespace DL
open PySem PySem.Spec PyProof.Rows L2
/-! ### dicts walked -/
theorem imE_vs {P : Program} {w : World} {K : PySem.W.Frag} {H : Hp} : ∀ {es : List KEnt} {kvs : List (D × D)}, ImE P w K H es kvs → ∃ ws : List V, Vals ws (es.map (·.2.2)) ∧ ImL P w K H ws (kvs.map (·.2)) ∧ ImL P w K H (es.map fun e => V.ref e.2.1) (kvs.map (·.1))
  | _, _, .nil => ⟨[], .nil, .nil, .nil⟩
  | _, _, .cons (x := x) h1 h2 h3 h4 r => by
    obtain ⟨ws, a, c, d⟩ := imE_vs r
    exact ⟨x :: ws, .cons h3 a, .cons h4 c, .cons h2 d⟩
/-- a dict frozen -/
structure DFz (b : BC) (H : Hp) (a : Addr) (es : List KEnt) (ep : Nat) : Prop where
  at_ : ∃ o, H a = some (.frz o (dctO b.P b.w a es ep))
  sm : (a == sysModules) = false
theorem DFz.keep {b : BC} {H H' : Hp} {a : Addr} {es : List KEnt} {ep : Nat} (h : DFz b H a es ep) (k : Keep H H') : DFz b H' a es ep := ⟨let ⟨o, e⟩ := h.at_; ⟨o, k.frz _ _ _ e⟩, h.sm⟩
theorem dct_fz {b : BC} {H : Hp} {v : V} {kvs : List (D × D)} (i : b.Im H v (.dct kvs)) : ∃ a es ep, v = .ref a ∧ DFz b H a es ep ∧ b.ImE H es kvs := by
  cases i with
  | dct h1 h2 h3 h4 => exact ⟨_, _, _, rfl, ⟨h1, h2⟩, h4⟩
abbrev ents (P : Program) (w : World) (es : List KEnt) : Array DictEntry := (es.map (entryOfKey (nestedKind P w))).toArray
theorem DFz.raw {X : Cx} {b : BC} {pins : List (Addr × Obj)} {σ : L2.St} {H : Hp} {s : Shared} (I : Inv X pins σ H s) (hP : X.prog = b.P) (hw : X.w = b.w) {a : Addr} {es : List KEnt} {ep : Nat} (h : DFz b H a es ep) : s.heap.DictRaw a (ents X.prog X.w es) ep ∧ a < s.heap.objs.size := by
  obtain ⟨o, h⟩ := h.at_
  obtain ⟨_, z, _⟩ := (show ObjOk X.prog X.w H s.heap a (.frz o (dctO b.P b.w a es ep)) from I.hok a _ h)
  have z : s.heap.DictRaw a (ents X.prog X.w es) ep := by unfold ents; rw [hP, hw]; exact z
  obtain ⟨ob, e, _⟩ := id z
  exact ⟨z, Heap.lt_size e⟩
theorem ents_key {P : Program} {w : World} {es : List KEnt} {i : Nat} (hi : i < (ents P w es).size) : ∃ e, es[i]? = some e ∧ (ents P w es)[i].key = .ref e.2.1 ∧ (ents P w es)[i].val = e.2.2 := by
  have hi' : i < es.length := by simpa [ents] using hi
  refine ⟨es[i], List.getElem?_eq_getElem hi', ?_, ?_⟩ <;> simp [ents, entryOfKey]
def itemsR : List (D × D) → List D := List.map fun p => .tup [p.1, p.2]
def asK1 (d : D) : Option (List D) := (asK d).map fun kvs => kvs.map (·.1)
def asK2 (d : D) : Option (List D) := (asK d).map itemsR
@[reducible] def aKeys (f : Act D) : Act (List D) := f.bind fun d => lift (asK1 d)
@[reducible] def aItems (f : Act D) : Act (List D) := f.bind fun d => lift (asK2 d)
section
variable {X : Cx} {b : BC} {x : XC} {e tg : Expr} {pos tpos apos cpos : Pos} {f : Act D} {elts : List Expr} {kk : Nat}
theorem turn_itemsD {N a : Addr} {es : List KEnt} {ep : Nat} {ws : List V} {E : Hp → Prop} (hz : 2 ≤ sizeLine) :
    Turn b.P b.w b.K (.Tuple elts kk tpos) (JR (fun H => DFz b H a es ep ∧ a < N ∧ Vals ws (es.map (·.2.2)) ∧ E H) (ents b.P b.w es).size (row2 (es.map fun e => V.ref e.2.1) ws)) [N] N
      (fun i h => ∃ ok ov, IsItemIter h N a i (ents b.P b.w es).size ep ok ov) := by
  refine turn_rows (by simp) (fun i h st c hc => ?_) (fun i h h' st kp => ?_) (fun A i s Q E st q => ?_) fun X hP hw hK hc pins s σ H I hs => ?_
  · obtain ⟨ok, ov, st⟩ := st
    rw [List.mem_singleton.mp hc]
    exact ⟨_, st, fun v q => nomatch q⟩
  · obtain ⟨ok, ov, st⟩ := st
    exact ⟨ok, ov, kp _ (by simp) _ st⟩
  · obtain ⟨ok, ov, st⟩ := st
    exact wpAny_pyIter_itemiter st q
  · obtain ⟨hf, hlt, hv, _⟩ := hs
    obtain ⟨hr, _⟩ := hf.raw I hP hw
    rw [hP, hw] at hr
    have hsz : (ents b.P b.w es).size = es.length := by simp [ents]
    have W := GoesN.rawItems (prog := b.P) (w := b.w) (A := X.A) (elts := elts) (x1 := kk) (pos := tpos) (I.ok.hd hc) N a (Nat.ne_of_lt hlt) (ents b.P b.w es) ep
    refine ⟨_, _, _, _, W, fun c hc => hc, fun i st => ⟨st, hr⟩, fun i h st => st.1, fun i h0 v h hi y => ?_⟩
    obtain ⟨T, hi', rfl, hT, ht⟩ := y
    obtain ⟨en, e1, e2, e3⟩ := ents_key (P := b.P) (w := b.w) (es := es) (i := i) hi'
    obtain ⟨v, hv1, rv⟩ : ∃ v, ws[i]? = some v ∧ RelV v en.2.2 := by
      have hl : i < ws.length := by rw [hv.length, List.length_map, ← hsz]; exact hi'
      obtain ⟨u, e, r⟩ := hv.get (List.getElem?_eq_getElem hl)
      rw [List.getElem?_map, e1] at e
      cases e
      exact ⟨_, List.getElem?_eq_getElem hl, r⟩
    refine ⟨T, _, [V.ref en.2.1, v], rfl, hT, ht, ?_, ?_, hz⟩
    · unfold row2
      rw [List.getElem?_map, e1, hv1]; rfl
    · rw [show (#[(ents b.P b.w es)[i].key, (ents b.P b.w es)[i].val] : Array Value).toList = [Value.ref en.2.1, en.2.2] by rw [e2, e3]]
      exact .cons rfl (.cons rv .nil)
/-- for k, v in d.items() -/
theorem i_items (hP : X.prog = b.P) (hw : X.w = b.w) (hK : X.K = b.K) (he : PE X e (tD b x f)) (hbase : attributeBase e "items" X.env (eval e X.env) = eval e X.env := by rfl) (hline : (apos.endLine == cpos.line) = true := by rfl) :
    PI X (.Tuple elts kk tpos) (.Call (.Attribute e "items" apos) [] [] cpos) (wD b x (aItems f)) := by
  refine ⟨fun pins s σ H R I ⟨ρ, a, q⟩ => ?_⟩
  refine wpAny_Call_method (T := "dict") (id := "dict.items") hbase rfl hline PySem.F.plainAttrs_dict PySem.F.slot_dict_items PySem.F.type_dict_items (thn (he.run pins s σ H (fun v H1 => ∃ a es ep kvs ρ1, v = .ref a ∧ DFz b H1 a es ep ∧ b.ImE H1 es kvs ∧ At b σ ρ1 H1 ∧ Keep H H1 ∧ ∀ J H2, At b σ ρ1 H2 → Keep H H2 → WalkD b J (itemsR kvs) H2 → R J H2) I
    (tD_step (Keep.refl H) a q fun d ρ1 v H1 a1 k1 i1 q1 => ?_)) fun u s1 ⟨v, H1, I1, r1, a, es, ep, kvs, ρ1, ev, hf, im, a1, k1, q1⟩ => ?_)
  · obtain ⟨xs, e, q2⟩ := lift_go q1
    obtain ⟨kvs, ek, rfl⟩ := Option.map_eq_some_iff.mp e
    cases dct_asK i1 ek
    obtain ⟨a, es, ep, rfl, hf, im⟩ := dct_fz i1
    exact ⟨a, es, ep, kvs, ρ1, rfl, hf, im, a1, k1, q2⟩
  · subst ev
    cases r1
    obtain ⟨hr, hlt⟩ := hf.raw I1 hP hw
    obtain ⟨o, ho, hc, _⟩ := id hr
    refine ⟨hr.typeIs, fun c z => by cases z; exact ⟨o, ho, hc.2.1⟩, ?_⟩
    have I2 : Inv X pins σ H1 { s1 with heap := s1.heap.push { cls := .type "dict_items", data := .fields #[.ref a] } } := I1.kept (t' := s1.toks) fun c ob q => Heap.get?_push_of_some _ q
    obtain ⟨ws, hv, iv, ik⟩ := imE_vs im
    have hsz : (ents b.P b.w es).size = es.length := by simp [ents]
    have WD : WalkD b (JR (fun H => DFz b H a es ep ∧ a < s1.heap.objs.size + 1 ∧ Vals ws (es.map (·.2.2)) ∧ b.ImL H (es.map fun e => V.ref e.2.1) (kvs.map (·.1)) ∧ b.ImL H ws (kvs.map (·.2))) (ents b.P b.w es).size (row2 (es.map fun e => V.ref e.2.1) ws)) (itemsR kvs) H1 := by
      refine walk_rows (by unfold itemsR; rw [List.length_map, hsz, ImE.length im]) ⟨hf, Nat.lt_succ_of_lt hlt, hv, ik, iv⟩ (fun H1 H2 h kp => ⟨h.1.keep kp, h.2.1, h.2.2.1, ImL.keep kp h.2.2.2.1, ImL.keep kp h.2.2.2.2⟩) fun H i vs h hi er => ?_
      unfold row2 at er
      split at er
      · rename_i y z ey ez
        cases er
        obtain ⟨d1, g1, j1⟩ := ImL.get h.2.2.2.1 ey
        obtain ⟨d2, g2, j2⟩ := ImL.get h.2.2.2.2 ez
        rw [List.getElem?_map] at g1 g2
        obtain ⟨p1, e1, rfl⟩ := Option.map_eq_some_iff.mp g1
        obtain ⟨p2, e2, rfl⟩ := Option.map_eq_some_iff.mp g2
        rw [e1] at e2; cases e2
        exact ⟨_, by unfold itemsR; rw [List.getElem?_map, e1]; rfl, .cons j1 (.cons j2 .nil)⟩
      · cases er
    have fin : wpAny (model X.prog X.w) X.A (pyIter (.ref s1.heap.objs.size)) (PIE X pins σ (.Tuple elts kk tpos) R) X.xe { s1 with heap := s1.heap.push { cls := .type "dict_items", data := .fields #[.ref a] } } := by
      refine wpAny_pyIter_items_raw (d := a) ⟨_, Heap.get?_push_size _ rfl, rfl, rfl⟩ (hr.push _) ?_
      have T := turn_itemsD (b := b) (elts := elts) (kk := kk) (tpos := tpos) (N := (s1.heap.push { cls := .type "dict_items", data := .fields #[.ref a] }).objs.size) (a := a) (es := es) (ep := ep) (ws := ws) (E := fun H => b.ImL H (es.map fun e => V.ref e.2.1) (kvs.map (·.1)) ∧ b.ImL H ws (kvs.map (·.2))) (by decide)
      rw [← hP, ← hw, ← hK] at T
      refine pi_one (tk := s1.toks) I2 _ T ⟨.none, .none, ?_⟩ ?_
      · rw [hP, hw]; exact Heap.get?_push_size _ rfl
      · rw [Heap.size_push, hP, hw]; exact q1 _ H1 a1 k1 WD
    show wpAny (model X.prog X.w) X.A (callWith cpos (.builtin "dict.items") [.ref a] [] []) _ X.xe s1
    exact method_meetsIn PySem.F.slot_dict_items PySem.F.entry_dict_items rfl (PySem.evalArgs_none ⟨rfl, hr.typeIs, PySem.F.args_dict_items_1 _, _, meets_dict_items_raw a hf.sm, ⟨⟨_, _, hr⟩, fin⟩⟩)
end
end DL
end
section
set_option Elab.async false
set_option linter.all false
set_option maxRecDepth 100000
set_option maxHeartbeats 2000000
namespace DL
open PySem PySem.Spec PyProof.Rows L2
/-- the keys, one a turn -/
def JK (src : Hp → Prop) (n : Nat) (es : List KEnt) : It :=
  ⟨fun i H => i < n ∧ src H, fun i H x H' => H' = H ∧ ∃ e, es[i]? = some e ∧ x = .ref e.2.1, fun i H => i = n ∧ src H⟩
section
variable {X : Cx} {b : BC} {x : XC} {k : Nat} {e tg : Expr} {pos tpos apos cpos : Pos} {f g : Act D} {elts : List Expr} {kk : Nat}
theorem turn_keysD {N a : Addr} {es : List KEnt} {ep : Nat} {E : Hp → Prop} :
    Turn b.P b.w b.K tg (JK (fun H => DFz b H a es ep ∧ a < N ∧ E H) (ents b.P b.w es).size es) [N] N (fun i h => h.IsKeyIter N a i (ents b.P b.w es).size ep) where
  mem := by simp
  obj := fun i h st c hc => by
    rw [List.mem_singleton.mp hc]
    obtain ⟨o, e, _, d⟩ := st
    exact ⟨o, e, fun v z => by rw [d] at z; cases z⟩
  keep := fun i h h' st kp => by
    obtain ⟨o, e, c, d⟩ := st
    exact ⟨o, kp N (by simp) _ e, c, d⟩
  item := by
    intro X hP hw hK hc i pins s σ H E' I hf st hg
    obtain ⟨hi, hz, hlt, hE⟩ := hg
    obtain ⟨hr, _⟩ := hz.raw I hP hw
    rw [hP, hw] at hr
    have W := Goes.rawKeys (prog := b.P) (w := b.w) (target := tg) (A := X.A) (I.ok.hd hc) N a (Nat.ne_of_lt hlt) (ents b.P b.w es) ep
    refine W.goes i s (fun v s2 => ∃ x H', Inv X pins σ H' s2 ∧ RelV x v ∧ (JK (fun H => DFz b H a es ep ∧ a < N ∧ E H) (ents b.P b.w es).size es).yld i H x H' ∧ s2.heap.IsKeyIter N a (i + 1) (ents b.P b.w es).size ep ∧ ∀ c ∈ [N], H' c = none) E' hi ⟨st, hr⟩ fun v h' tk y st' k _ => ?_
    obtain ⟨hi', rfl⟩ := y
    obtain ⟨en, e1, e2, e3⟩ := ents_key (P := b.P) (w := b.w) (es := es) (i := i) hi'
    have I1 : Inv X pins σ H { s with heap := h', toks := tk } := I.turnedL (t' := tk) (ch := [N]) (fun b o hb e => k b o hb e) hf
    exact ⟨.ref en.2.1, H, I1, e2, ⟨rfl, en, e1, rfl⟩, st'.1, fun c hc => (hf c hc).1⟩
  done := by
    intro X hP hw hK hc i pins s σ H E' I hf st hg
    obtain ⟨rfl, hz, hlt, hE⟩ := hg
    obtain ⟨hr, _⟩ := hz.raw I hP hw
    rw [hP, hw] at hr
    have W := Goes.rawKeys (prog := b.P) (w := b.w) (target := tg) (A := X.A) (I.ok.hd hc) N a (Nat.ne_of_lt hlt) (ents b.P b.w es) ep
    exact W.stops s (fun s2 => Inv X pins σ H s2) E' ⟨st, hr⟩ fun h' tk k _ => I.turnedL (t' := tk) (ch := [N]) (fun b o hb e => k b o hb e) hf
  self := fun A i s Q E' st q => wpAny_pyIter_keyiter st q
/-- for k in d -/
theorem i_keys (hP : X.prog = b.P) (hw : X.w = b.w) (hK : X.K = b.K) (he : PE X e (tD b x f)) : PI X tg e (wD b x (aKeys f)) := by
  refine ⟨fun pins s σ H R I ⟨ρ, a, q⟩ => ?_⟩
  refine thn (he.run pins s σ H (fun v H1 => ∃ a es ep kvs ρ1, v = .ref a ∧ DFz b H1 a es ep ∧ b.ImE H1 es kvs ∧ At b σ ρ1 H1 ∧ Keep H H1 ∧ ∀ J H2, At b σ ρ1 H2 → Keep H H2 → WalkD b J (kvs.map (·.1)) H2 → R J H2) I
    (tD_step (Keep.refl H) a q fun d ρ1 v H1 a1 k1 i1 q1 => ?_)) fun u s1 ⟨v, H1, I1, r1, a, es, ep, kvs, ρ1, ev, hf, im, a1, k1, q1⟩ => ?_
  · obtain ⟨xs, e, q2⟩ := lift_go q1
    obtain ⟨kvs, ek, rfl⟩ := Option.map_eq_some_iff.mp e
    cases dct_asK i1 ek
    obtain ⟨a, es, ep, rfl, hf, im⟩ := dct_fz i1
    exact ⟨a, es, ep, kvs, ρ1, rfl, hf, im, a1, k1, q2⟩
  · subst ev
    cases r1
    obtain ⟨hr, hlt⟩ := hf.raw I1 hP hw
    obtain ⟨ws, hv, iv, ik⟩ := imE_vs im
    have hsz : (ents b.P b.w es).size = es.length := by simp [ents]
    have WD : WalkD b (JK (fun H => DFz b H a es ep ∧ a < s1.heap.objs.size ∧ b.ImL H (es.map fun e => V.ref e.2.1) (kvs.map (·.1))) (ents b.P b.w es).size es) (kvs.map (·.1)) H1 := by
      have hn : (ents b.P b.w es).size = (kvs.map (·.1)).length := by rw [List.length_map, hsz, ImE.length im]
      rw [hn]
      refine ⟨_, fun i H x H' => H' = H ∧ ∃ e, es[i]? = some e ∧ x = .ref e.2.1, ⟨fun i H hi h => ⟨hi, h⟩, fun H h => ⟨rfl, h⟩, fun i H x H' hi h y => y⟩, ⟨hf, hlt, ik⟩, fun H1 H2 h kp => ⟨h.1.keep kp, h.2.1, ImL.keep kp h.2.2⟩, fun i H v H2 hi h y => ?_⟩
      obtain ⟨rfl, en, e1, rfl⟩ := y
      obtain ⟨d, g1, j1⟩ := ImL.get h.2.2 (i := i) (v := .ref en.2.1) (by rw [List.getElem?_map, e1]; rfl)
      exact ⟨Up.refl _ _, d, g1, j1⟩
    refine wpAny_pyIter_dict_raw hf.sm hr ?_
    have T := turn_keysD (b := b) (tg := tg) (N := s1.heap.objs.size) (a := a) (es := es) (ep := ep) (E := fun H => b.ImL H (es.map fun e => V.ref e.2.1) (kvs.map (·.1)))
    rw [← hP, ← hw, ← hK] at T
    refine pi_one (tk := s1.toks) I1 _ T ⟨_, Heap.get?_push_size _ rfl, rfl, by rw [hP, hw]; rfl⟩ ?_
    rw [hP, hw]
    exact q1 _ H1 a1 k1 WD
end
section
variable {prog : Program} {w : World} {K : Type} [DecidableEq K] {knd : HeapKind prog w K} {A : Around} {E : Value → Shared → Prop} {s : Shared}
theorem Dict_pairH {env : Env} {e1 e2 : Expr} {pos : Pos} {Q : Value → Shared → Prop} (hu : knd.room A)
    (h : wpAny (model prog w) A (eval e1 env) (fun kv s1 => wpAny (model prog w) A (eval e2 env) (fun vv s2 => ∃ n ka, kv = .ref ka ∧ knd.is s2.heap n ka ∧ s2.heap.DictOfH knd s.heap.objs.size [] ∧
      ∀ h' tk, h'.DictOfH knd s.heap.objs.size [(n, ka, vv)] → Heap.SameBut s.heap.objs.size s2.heap h' → Q (.ref s.heap.objs.size) { s2 with heap := h', toks := tk }) E s1) E
      { s with heap := s.heap.push { cls := .type "dict", data := .dict #[] } }) :
    wpAny (model prog w) A (eval (.Dict [some e1] [e2] pos) env) Q E s := by
  rw [arm_eval_Dict, zip_pairTrees [some e1] [e2] env pos rfl rfl, dictDisplay_pairs (pairTrees [some e1] [e2] env pos) (fun z => by cases z) (by show 1 < 17; decide)]
  refine wpAny_bind (wpAny_standAt (wpAny_bind (wpAny_subDictH (knd := knd) (Q := fun d s' => wpAny (model prog w) A (pure (Value.ref d)) Q E s') hu (by show 1 ≤ 15; decide) ?_)))
  refine pairTrees_cons_walk (wpAny_mono h (fun kv s1 h1 => wpAny_mono h1 (fun vv s2 h2 => ?_) fun _ _ e => e) fun _ _ e => e)
  obtain ⟨n, ka, rfl, hk, hd, hQ⟩ := h2
  exact pairTrees_nil_walk ⟨[(n, ka, vv)], ⟨rfl, rfl, hk, trivial⟩, hd, fun h' tk d sb => wpAny_pure (hQ h' tk d sb)⟩
end
section
variable {X : Cx} {b : BC} {x : XC} {k : Nat} {e tg : Expr} {pos tpos apos cpos : Pos} {f g : Act D} {elts : List Expr} {kk : Nat}
/-- {k: v} -/
@[reducible] def aPairK (f g : Act D) : Act (List (D × D)) := fun ρ => match f ρ with
  | .ok kd ρ1 => match g ρ1 with
    | .ok vd ρ2 => if kd.kk.isSome = true then .ok [(kd, vd)] ρ2 else .stuck
    | _ => .stuck
  | _ => .stuck
theorem room8'' {A : Around} {k : Nat} (hr : Room k A) {P : Program} {w : World} : (nestedKind P w).room A := by
  have := hr.un
  show A.units + 8 < cLine
  omega
theorem px_pairK {e1 e2 : Expr} (hr : Room k X.A) (hP : X.prog = b.P) (hw : X.w = b.w) (hK : X.K = b.K) (h1 : ∀ B' : Hp, PE X e1 (tD (b.wB B') .no f)) (h2 : ∀ B' : Hp, PE X e2 (tD (b.wB B') .no g)) : PE X (.Dict [some e1] [e2] pos) (tK b x (aPairK f g)) := by
  refine ⟨fun pins s σ H Q I ⟨ρ, a, q⟩ => ?_⟩
  have hn := I.hok.fresh (Nat.le_refl s.heap.objs.size)
  obtain ⟨ep, ok⟩ := dictO_of (Heap.DictOfH.new (knd := nestedKind X.prog X.w) s.heap)
  rw [hP, hw] at ok
  have I1 := I.laid (a := s.heap.objs.size) (o := dctO b.P b.w s.heap.objs.size [] ep) (h' := s.heap.push { cls := .type "dict", data := .dict #[] }) (t' := s.toks) (fun _ _ q => Heap.get?_push_of_some _ q) (Nat.le_refl _) (by rw [hP, hw]; exact ok _)
  have hB : b.B s.heap.objs.size = none := a.bNone hn
  have u0 : Up b.tb H (upd H s.heap.objs.size (dctO b.P b.w s.heap.objs.size [] ep)) := Up.new hn
  have b0 := (a.up u0).lockB upd_same (fun _ z => by cases z) (a.notNew hn)
  refine Dict_pairH (knd := nestedKind X.prog X.w) (room8'' hr) ?_
  unfold aPairK at q
  cases e1 : f ρ with
  | exc e' ρ1 => rw [e1] at q; exact q.elim
  | stuck => rw [e1] at q; exact q.elim
  | ok kd ρ1 =>
    simp only [e1] at q
    cases e2 : g ρ1 with
    | exc e' ρ1 => simp only [e2] at q; exact q.elim
    | stuck => simp only [e2] at q; exact q.elim
    | ok vd ρ2 =>
      simp only [e2] at q
      by_cases hk : kd.kk.isSome = true
      · rw [if_pos hk] at q
        obtain ⟨n, hn2⟩ := Option.isSome_iff_exists.mp hk
        refine thn ((h1 _).run pins _ σ _ (fun v1 H1 => b.Im H1 v1 kd ∧ Keep (upd H s.heap.objs.size (dctO b.P b.w s.heap.objs.size [] ep)) H1 ∧ At (b.wB (upd b.B s.heap.objs.size (dctO b.P b.w s.heap.objs.size [] ep))) σ ρ1 H1) I1 ⟨ρ, b0, by rw [e1]; exact fun v1 H1 a1 k1 i1 => ⟨i1, k1, a1⟩⟩) fun kv s1 ⟨v1, H1, I1', r1, i1, k1, a1⟩ => ?_
        refine thn ((h2 _).run pins s1 σ H1 (fun v2 H2 => b.Im H2 v2 vd ∧ Keep H1 H2 ∧ At (b.wB (upd b.B s.heap.objs.size (dctO b.P b.w s.heap.objs.size [] ep))) σ ρ2 H2) I1' ⟨ρ1, a1, by rw [e2]; exact fun v2 H2 a2 k2 i2 => ⟨i2, k2, a2⟩⟩) fun vv s2 ⟨v2, H2, I2, r2, i2, k2, a2⟩ => ?_
        obtain ⟨ka, rfl⟩ := kk_ref i1 hn2
        cases r1
        have hl : H2 s.heap.objs.size = some (dctO b.P b.w s.heap.objs.size [] ep) := a2.ext.keep _ _ upd_same (fun _ z => by cases z)
        have hd0 : DAt b H2 s.heap.objs.size [] ep [] := ⟨.inl hl, big_ne I (Nat.le_refl _), ⟨List.nodup_nil, fun _ z => by cases z⟩, .nil⟩
        refine ⟨n, ka, rfl, key_is I2 hK (Im.keep k2 i1) hn2, hd0.of I2 hP hw hK, fun h' tk hD hs => ?_⟩
        obtain ⟨ep', ok'⟩ := dictO_of hD
        obtain ⟨ob, _, _, hob, _⟩ := id hD
        rw [hP, hw] at ok'
        have J := I2.write (x := s.heap.objs.size) (e := s.heap.objs.size) (o := dctO b.P b.w s.heap.objs.size [(n, ka, vv)] ep') (t' := tk) (by rw [hl]; trivial) (.inl rfl) (fun c w hc e => hs.extBut c w hc e) ⟨ob, hob⟩ (by rw [hP, hw]; exact ok' _)
        have km : Keep H2 (upd H2 s.heap.objs.size (dctO b.P b.w s.heap.objs.size [(n, ka, vv)] ep')) := Keep.mut hl (fun _ z => by cases z) (fun _ _ z => by cases z)
        have nl := a2.notLocked
        have a3 := (a2.unlockB hB).other (o := dctO b.P b.w s.heap.objs.size [(n, ka, vv)] ep') hB hl (fun _ z => by cases z) (fun _ _ z => by cases z) (fun _ z => by cases z) nl
        exact ⟨.ref s.heap.objs.size, _, J, rfl, q _ [(n, ka, vv)] ep' _ a3 (((u0.toKeep.trans k1).trans k2).trans km) hB nl upd_same
          ⟨.inl upd_same, big_ne I (Nat.le_refl _), ⟨by simp, fun e he => by rw [List.mem_singleton.mp he]; exact (kk_of hn2).2.1⟩, .cons (kk_of hn2).1 (Im.keep km (Im.keep k2 i1)) r2 (Im.keep km i2) .nil⟩⟩
      · rw [if_neg hk] at q; exact q.elim
end
end DL
end
section
set_option Elab.async false
set_option linter.all false
set_option maxRecDepth 100000
set_option maxHeartbeats 2000000
namespace DL
open PySem PySem.Spec PyProof.Rows L2 PySem.W
/-! ### sorted of data -/
mutual
def D.beq : D → D → Bool
  | .non, .non => true
  | .bl a, .bl c => a == c
  | .int a, .int c => decide (a = c)
  | .str a, .str c => decide (a = c)
  | .tup a, .tup c => D.beqs a c
  | .lst a, .lst c => D.beqs a c
  | _, _ => false
def D.beqs : List D → List D → Bool
  | [], [] => true
  | a :: as, c :: cs => D.beq a c && D.beqs as cs
  | _, _ => false
end
mutual
theorem D.eq_of : ∀ {a c : D}, D.beq a c = true → a = c
  | .non, c, h => by cases c <;> first | rfl | (unfold D.beq at h; cases h)
  | .bl a, c, h => by cases c <;> first | (unfold D.beq at h; rw [eq_of_beq h]) | (unfold D.beq at h; cases h)
  | .int a, c, h => by cases c <;> first | (unfold D.beq at h; rw [of_decide_eq_true h]) | (unfold D.beq at h; cases h)
  | .str a, c, h => by cases c <;> first | (unfold D.beq at h; rw [of_decide_eq_true h]) | (unfold D.beq at h; cases h)
  | .tup a, c, h => by cases c <;> first | (unfold D.beq at h; rw [D.eqs_of h]) | (unfold D.beq at h; cases h)
  | .lst a, c, h => by cases c <;> first | (unfold D.beq at h; rw [D.eqs_of h]) | (unfold D.beq at h; cases h)
  | .dct a, c, h => by cases c <;> (unfold D.beq at h; cases h)
  | .op a, c, h => by cases c <;> (unfold D.beq at h; cases h)
theorem D.eqs_of : ∀ {a c : List D}, D.beqs a c = true → a = c
  | [], [], _ => rfl
  | [], _ :: _, h => by unfold D.beqs at h; cases h
  | _ :: _, [], h => by unfold D.beqs at h; cases h
  | a :: as, c :: cs, h => by
    unfold D.beqs at h
    rw [Bool.and_eq_true] at h
    rw [D.eq_of h.1, D.eqs_of h.2]
end
/-- Python's < of alike data -/
def dLtB (a c : D) : Bool := dataLt a.py c.py
def insD (x : D) : List D → List D
  | [] => [x]
  | y :: ys => if dLtB y x = true then y :: insD x ys else x :: y :: ys
def isortD : List D → List D
  | [] => []
  | x :: xs => insD x (isortD xs)
def pwD : List D → Bool
  | [] => true
  | x :: xs => (xs.all fun y => dLtB x y || D.beq x y) && pwD xs
theorem insD_perm (x : D) : ∀ xs : List D, (insD x xs).Perm (x :: xs)
  | [] => .refl _
  | y :: ys => by
    unfold insD
    split
    · exact ((insD_perm x ys).cons y).trans (.swap x y ys)
    · exact .refl _
theorem isortD_perm : ∀ xs : List D, (isortD xs).Perm xs
  | [] => .refl _
  | x :: xs => (insD_perm x _).trans ((isortD_perm xs).cons x)
abbrev leD : D → D → Bool := dataLe false D.py
theorem leD_eq (a c : D) : leD a c = !dLtB c a := rfl
theorem srt_unique : ∀ {r m : List D}, r.Perm m → pwD r = true → m.Pairwise (fun a c => leD a c = true) → r = m
  | [], m, p, _, _ => (List.nil_perm.mp p).symm
  | x :: r, m, p, h1, h2 => by
    unfold pwD at h1
    rw [Bool.and_eq_true] at h1
    cases m with
    | nil => exact absurd (List.perm_nil.mp p) (by simp)
    | cons y m =>
      have hx : x ∈ y :: m := p.subset List.mem_cons_self
      have hy : y ∈ x :: r := p.symm.subset List.mem_cons_self
      have e : x = y := by
        rcases List.mem_cons.mp hx with e | hm
        · exact e
        · rcases List.mem_cons.mp hy with e | hl
          · exact e.symm
          · have a := List.all_eq_true.mp h1.1 y hl
            have c := (List.pairwise_cons.mp h2).1 x hm
            rw [leD_eq] at c
            rw [Bool.or_eq_true] at a
            rcases a with a | a
            · rw [a] at c; cases c
            · exact D.eq_of a
      subst e
      rw [srt_unique (List.Perm.cons_inv p) h1.2 (List.pairwise_cons.mp h2).2]
/-- may be sorted -/
def srtable (ds : List D) : Bool := (ds.all fun d => d.okp && decide (d.py.depth ≤ 30)) && (ds.all fun a => ds.all fun c => alike a.py c.py) && ((ds.all fun d => match d with | .tup (_ :: _) => true | _ => false) || (ds.all fun d => match d with | .bl _ => true | .int _ => true | .str _ => true | .lst _ => true | _ => false))
def dSrt (ds : List D) : Option (List D) := if srtable ds = true ∧ ds.length ≤ 16000000 ∧ pwD (isortD ds) = true then some (isortD ds) else none
theorem srt_alike {ds : List D} (h : srtable ds = true) : AllAlike (ds.map D.py) := by
  unfold srtable at h
  rw [Bool.and_eq_true, Bool.and_eq_true] at h
  intro d hd d' hd'
  obtain ⟨a, ha, rfl⟩ := List.mem_map.mp hd
  obtain ⟨c, hc, rfl⟩ := List.mem_map.mp hd'
  exact List.all_eq_true.mp (List.all_eq_true.mp h.1.2 a ha) c hc
theorem srt_sortable {ds : List D} (h : srtable ds = true) : Sortable (ds.map D.py) := by
  unfold srtable at h
  rw [Bool.and_eq_true, Bool.or_eq_true] at h
  rcases h.2 with h | h
  · refine .inl fun d hd => ?_
    obtain ⟨a, ha, rfl⟩ := List.mem_map.mp hd
    have := List.all_eq_true.mp h a ha
    split at this
    · exact ⟨_, _, by rw [D.py, D.pys]⟩
    · cases this
  · refine .inr fun d hd => ?_
    obtain ⟨a, ha, rfl⟩ := List.mem_map.mp hd
    have := List.all_eq_true.mp h a ha
    cases a with
    | tup _ => cases this
    | non => cases this
    | bl _ => exact ⟨(fun z => by rw [D.py] at z; cases z), fun xs z => by rw [D.py] at z; cases z⟩
    | int _ => exact ⟨(fun z => by rw [D.py] at z; cases z), fun xs z => by rw [D.py] at z; cases z⟩
    | str _ => exact ⟨(fun z => by rw [D.py] at z; cases z), fun xs z => by rw [D.py] at z; cases z⟩
    | lst _ => exact ⟨(fun z => by rw [D.py] at z; cases z), fun xs z => by rw [D.py] at z; cases z⟩
    | dct _ => cases this
    | op _ => cases this
theorem pys_map : ∀ ds : List D, D.pys ds = ds.map D.py
  | [] => rfl
  | d :: ds => by rw [D.pys, List.map_cons, pys_map ds]
/-- values beside their data -/
theorem each_zip {H : Hp} {b : BC} : ∀ {vs : List V} {us : List Value} {ds : List D}, Vals vs us → b.ImL H vs ds → EachIs (fun u (p : V × D) => RelV p.1 u) us (vs.zip ds)
  | _, _, _, .nil, .nil => .nil
  | _, _, _, .cons r rr, .cons i ii => .cons r (each_zip rr ii)
theorem zip_snd {H : Hp} {b : BC} {vs : List V} {ds : List D} (i : b.ImL H vs ds) : (vs.zip ds).map (·.2) = ds := by
  rw [List.map_snd_zip (by rw [ImL.length i]; exact Nat.le_refl _)]
theorem zip_im {H : Hp} {b : BC} : ∀ {vs : List V} {ds : List D}, b.ImL H vs ds → ∀ p ∈ vs.zip ds, b.Im H p.1 p.2
  | _, _, .nil, p, h => by cases h
  | _, _, .cons i ii, p, h => by
    rcases List.mem_cons.mp h with rfl | h
    · exact i
    · exact zip_im ii p h
theorem im_unzip {H : Hp} {b : BC} : ∀ {l : List (V × D)}, (∀ p ∈ l, b.Im H p.1 p.2) → b.ImL H (l.map (·.1)) (l.map (·.2))
  | [], _ => .nil
  | p :: l, h => .cons (h p List.mem_cons_self) (im_unzip fun q hq => h q (List.mem_cons_of_mem _ hq))
theorem each_vals : ∀ {us : List Value} {l : List (V × D)}, EachIs (fun u (p : V × D) => RelV p.1 u) us l → Vals (l.map (·.1)) us
  | _, _, .nil => .nil
  | _, _, .cons h t => .cons h (each_vals t)
theorem each_reads {X : Cx} {b : BC} {pins : List (Addr × Obj)} {σ : L2.St} {H : Hp} {s : Shared} (I : Inv X pins σ H s) (hK : X.K = b.K) : ∀ {vs : List V} {us : List Value} {ds : List D}, Vals vs us → b.ImL H vs ds → (ds.all D.okp) = true → EachIs (fun u (p : V × D) => ∃ as, Reads s.heap u p.2.py as) us (vs.zip ds)
  | _, _, _, .nil, .nil, _ => .nil
  | _, _, _, .cons r rr, .cons i ii, h => by
    rw [List.all_cons, Bool.and_eq_true] at h
    exact .cons (Dp.reads I _ _ _ (by rw [hK]; exact dp_of i h.1) r) (each_reads I hK rr ii h.2)
theorem srt_okp {ds : List D} (h : srtable ds = true) : (ds.all D.okp) = true := by
  unfold srtable at h
  rw [Bool.and_eq_true, Bool.and_eq_true] at h
  refine List.all_eq_true.mpr fun d hd => ?_
  have := List.all_eq_true.mp h.1.1 d hd
  rw [Bool.and_eq_true] at this
  exact this.1
theorem srt_depth {ds : List D} (h : srtable ds = true) : ∀ d ∈ ds, d.py.depth ≤ 30 := fun d hd => by
  unfold srtable at h
  rw [Bool.and_eq_true, Bool.and_eq_true] at h
  have := List.all_eq_true.mp h.1.1 d hd
  rw [Bool.and_eq_true] at this
  exact of_decide_eq_true this.2
/-- what comes out of the sort -/
theorem srt_out {H : Hp} {b : BC} {vs : List V} {ds rs : List D} {out : List Value} (im : b.ImL H vs ds) (hs : dSrt ds = some rs) (e : EachIs (fun u (p : V × D) => RelV p.1 u) out ((vs.zip ds).mergeSort (dataLe false fun p => p.2.py))) :
    ∃ ws, Vals ws out ∧ b.ImL H ws rs ∧ ws.length = ds.length := by
  unfold dSrt at hs
  split at hs
  · rename_i hc
    cases hs
    have hp : ((vs.zip ds).mergeSort (dataLe false fun p => p.2.py)).Perm (vs.zip ds) := List.mergeSort_perm _ _
    have hm : ((vs.zip ds).mergeSort (dataLe false fun p => p.2.py)).map (·.2) = isortD ds := by
      have h1 : ((vs.zip ds).mergeSort (dataLe false fun p => p.2.py)).map (·.2) = ((vs.zip ds).map (·.2)).mergeSort leD := List.map_mergeSort fun a _ c _ => rfl
      rw [h1, zip_snd im]
      have T := sortLe_total (listOrd itemOrd) false fun d : D => keyToks d.py
      refine (srt_unique ((isortD_perm ds).trans (List.mergeSort_perm ds leD).symm) hc.2.2 ?_).symm
      exact List.pairwise_mergeSort (le := leD) (fun a c d h1 h2 => T.trans a c d h1 h2) (fun a c => Bool.or_eq_true_iff.mpr (T.total a c)) ds
    refine ⟨_, each_vals e, ?_, ?_⟩
    · rw [← hm]
      exact im_unzip fun p hpm => zip_im im p (hp.mem_iff.mp hpm)
    · rw [List.length_map, hp.length_eq, List.length_zip, ImL.length im, Nat.min_self]
  · cases hs
section
variable {X : Cx} {b : BC} {x : XC} {k : Nat} {e : Expr} {pos p : Pos} {f : Act D} {fs : Act (List D)}
/-- sorted(xs), a list: a new list -/
@[reducible] def aSrt (f : Act D) : Act (List D) := f.bind fun d => lift (match d with | .lst ds => dSrt ds | _ => none)
theorem px_srtF (hr : Room k X.A) (hK : X.K = b.K) (hg : Gl X "sorted") (hm : X.mg "sorted" = none) (h1 : PE X e (tD b x f)) (he : starEach [e] X.env = (false, eval e X.env) :: starEach [] X.env := by rfl) : PE X (.Call (.Name "sorted" p) [e] [] pos) (tF b x (aSrt f)) := by
  refine ⟨fun pins s σ H Q I ⟨ρ, a0, q⟩ => ?_⟩
  refine wpAny_Call_Name_kw (ld_blt I hg hm (by decide +kernel : bootBuiltins "sorted" = some (.builtin "sorted")) ?_)
  refine PyProof.Rows.callWith_builtin1 (thn ((pa_cons h1 pa_nil he).run pos pins s σ H (fun vs H1 => ∃ a ws ds rs ρ1, vs = [.ref a] ∧ SqL b.K H1 a ws ∧ b.ImL H1 ws ds ∧ dSrt ds = some rs ∧ At b σ ρ1 H1 ∧ Keep H H1 ∧ ∀ p vs H', At b σ ρ1 H' → Keep H H' → b.B p = none → (∀ (j : Nat) (y : Cell), ρ1[j]? = some (some y) → y.own → σ[j]? ≠ some (some (V.ref p))) → H' p = some (.lst vs) → b.ImL H' vs rs → Q (.ref p) H') I
    (tD_step (Keep.refl H) a0 q fun d ρ1 v H1 a1 k1 i1 q1 => ?_)) fun us s1 ⟨vs, H1, I1, r1, a, ws, ds, rs, ρ1, ev, hl, im, hs, a1, k1, q1⟩ => ?_) he (by rfl)
  · obtain ⟨rs, e, q2⟩ := lift_go q1
    cases i1 with
    | lst h r =>
      obtain ⟨o, h⟩ := h
      exact ⟨_, _, _, rs, ρ1, rfl, .inl (.inr ⟨o, h⟩), r, e, a1, k1, q2⟩
    | _ => cases e
  · subst ev
    cases r1 with
    | cons r rr =>
      cases rr
      cases r
      obtain ⟨its, rv, pl, hz⟩ := I1.list (by rw [hK]; exact hl)
      have hc : srtable ds = true ∧ ds.length ≤ 16000000 ∧ pwD (isortD ds) = true := by
        unfold dSrt at hs
        split at hs
        · assumption
        · cases hs
      have hmap : (ws.zip ds).map (fun p => p.2.py) = ds.map D.py := by rw [← zip_snd im, List.map_map, zip_snd im]; rfl
      refine sorted_data (β := V × D) (enc := fun p => p.2.py) (R := fun u p => RelV p.1 u) pl.isList (each_zip rv im) (each_reads I1 hK rv im (srt_okp hc.1)) (by rw [hmap]; exact srt_alike hc.1) (by rw [hmap]; exact srt_sortable hc.1)
        (by rw [List.length_zip, ImL.length im, Nat.min_self]; exact size_line hc.2.1) (fun p hp => ?_) fun out hlen eo => ?_
      · have h2 : p.2 ∈ ds := by rw [← zip_snd im]; exact List.mem_map.mpr ⟨p, hp, rfl⟩
        have := srt_depth hc.1 _ h2
        have := hr.un
        show X.A.units + 2 + p.2.py.depth < cLine
        omega
      · obtain ⟨zs, rz, iz, lz⟩ := srt_out im hs eo
        obtain ⟨c, hcc⟩ := sortedAll_at s1.heap its out.toArray
        have hn := I1.hok.fresh (Nat.le_succ s1.heap.objs.size)
        have I2 := I1.laid (a := s1.heap.objs.size + 1) (o := .lst zs) (h' := sortedAll s1.heap its out.toArray) (t' := s1.toks) (fun _ _ q => sortedAll_old q) (Nat.le_succ _) ⟨by rw [lz]; exact size_line hc.2.1, out, c, rz, hcc⟩
        have u : Up b.tb H1 (upd H1 (s1.heap.objs.size + 1) (.lst zs)) := Up.new hn
        exact ⟨.ref (s1.heap.objs.size + 1), _, I2, rfl, q1 _ zs _ (a1.up u) (k1.trans u.toKeep) (a1.bNone hn) (a1.notNew hn) upd_same (ImL.keep u.toKeep iz)⟩
end
end DL
end
section
set_option Elab.async false
set_option linter.all false
set_option maxRecDepth 100000
set_option maxHeartbeats 2000000
namespace DL
open PySem PySem.Calls PySem.Spec PyProof.Rows L2 PySem.W
mutual
theorem reads_lt {h : Heap} : ∀ {v : Value} {d : PyData} {as : List Addr}, Reads h v d as → ∀ a ∈ as, a < h.objs.size
  | _, _, _, .none, a, ha => by cases ha
  | _, _, _, .bool _, a, ha => by cases ha
  | _, _, _, .int _ _, a, ha => by cases ha
  | _, _, _, .str _ _, a, ha => by cases ha
  | _, _, _, .list h1 _ _ r, a, ha => by
    rcases List.mem_cons.mp ha with e | ha
    · rw [e]; exact Heap.lt_size h1
    · exact readsAll_lt r a ha
  | _, _, _, .tuple _ _ _ r, a, ha => readsAll_lt r a ha
  | _, _, _, .dict h1 _ _ r1 r2, a, ha => by
    rcases List.mem_append.mp ha with ha | ha
    · rcases List.mem_cons.mp ha with e | ha
      · rw [e]; exact Heap.lt_size h1
      · exact readsAll_lt r1 a ha
    · exact readsAll_lt r2 a ha
theorem readsAll_lt {h : Heap} : ∀ {v : List Value} {d : List PyData} {as : List Addr}, ReadsAll h v d as → ∀ a ∈ as, a < h.objs.size
  | _, _, _, .nil, a, ha => by cases ha
  | _, _, _, .cons r rr, a, ha => by
    rcases List.mem_append.mp ha with ha | ha
    · exact reads_lt r a ha
    · exact readsAll_lt rr a ha
end
theorem vals_of_get : ∀ {vs : List V} {us : List Value}, vs.length = us.length → (∀ (j : Nat) (u : Value), us[j]? = some u → ∃ v, vs[j]? = some v ∧ RelV v u) → Vals vs us
  | [], [], _, _ => .nil
  | [], _ :: _, h, _ => by cases h
  | _ :: _, [], h, _ => by cases h
  | v :: vs, u :: us, h, g => by
    obtain ⟨v', e, r⟩ := g 0 u rfl
    cases e
    exact .cons r (vals_of_get (by simpa using h) fun j u hj => g (j + 1) u (by simpa using hj))
section
variable {X : Cx} {b : BC} {x : XC} {k : Nat} {e : Expr} {pos p : Pos} {f : Act D} {fs : Act (List D)}
/-- sorted(d), a dict: a new list of its keys -/
@[reducible] def aSrtK (f : Act D) : Act (List D) := f.bind fun d => lift ((asK1 d).bind dSrt)
theorem px_srtKF (hr : Room k X.A) (hP : X.prog = b.P) (hw : X.w = b.w) (hK : X.K = b.K) (hg : Gl X "sorted") (hm : X.mg "sorted" = none) (h1 : PE X e (tD b x f)) (he : starEach [e] X.env = (false, eval e X.env) :: starEach [] X.env := by rfl) : PE X (.Call (.Name "sorted" p) [e] [] pos) (tF b x (aSrtK f)) := by
  refine ⟨fun pins s σ H Q I ⟨ρ, a0, q⟩ => ?_⟩
  refine wpAny_Call_Name_kw (ld_blt I hg hm (by decide +kernel : bootBuiltins "sorted" = some (.builtin "sorted")) ?_)
  refine PyProof.Rows.callWith_builtin1 (thn ((pa_cons h1 pa_nil he).run pos pins s σ H (fun vs H1 => ∃ a es ep kvs rs ρ1, vs = [.ref a] ∧ DFz b H1 a es ep ∧ b.ImE H1 es kvs ∧ dSrt (kvs.map (·.1)) = some rs ∧ At b σ ρ1 H1 ∧ Keep H H1 ∧ ∀ p vs H', At b σ ρ1 H' → Keep H H' → b.B p = none → (∀ (j : Nat) (y : Cell), ρ1[j]? = some (some y) → y.own → σ[j]? ≠ some (some (V.ref p))) → H' p = some (.lst vs) → b.ImL H' vs rs → Q (.ref p) H') I
    (tD_step (Keep.refl H) a0 q fun d ρ1 v H1 a1 k1 i1 q1 => ?_)) fun us s1 ⟨vs, H1, I1, r1, a, es, ep, kvs, rs, ρ1, ev, hf, imE, hs, a1, k1, q1⟩ => ?_) he (by rfl)
  · obtain ⟨rs, e, q2⟩ := lift_go q1
    obtain ⟨ks, e1, e2⟩ := Option.bind_eq_some_iff.mp e
    obtain ⟨kvs, ek, rfl⟩ := Option.map_eq_some_iff.mp e1
    cases dct_asK i1 ek
    obtain ⟨a, es, ep, rfl, hf, im⟩ := dct_fz i1
    exact ⟨a, es, ep, kvs, rs, ρ1, rfl, hf, im, e2, a1, k1, q2⟩
  · subst ev
    cases r1 with
    | cons r rr =>
      cases rr
      cases r
      obtain ⟨hraw, hlt⟩ := hf.raw I1 hP hw
      obtain ⟨ws0, _, _, im⟩ := imE_vs imE
      have hc : srtable (kvs.map (·.1)) = true ∧ (kvs.map (·.1)).length ≤ 16000000 ∧ pwD (isortD (kvs.map (·.1))) = true := by
        unfold dSrt at hs
        split at hs
        · assumption
        · cases hs
      have hsz : (ents X.prog X.w es).size = es.length := by simp [ents]
      have hlen : es.length = (kvs.map (·.1)).length := by rw [List.length_map, ImE.length imE]
      refine call_function_entry kind_sorted plain_sorted entry_sorted (args_sorted1 _) ?_
      unfold Builtin.«sorted»
      refine wpAny_bind (m := checkCount "sorted" 1 1 _) (wpAny_pure ?_)
      refine wpAny_bind (kdu_collect (A := X.A.in1) (KdlSrc.rawDict hf.sm) hr.hd hraw (by rw [hsz, hlen]; exact size_line hc.2.1) fun h' tk acc hk hacc => ?_)
      have hl : acc.toList.length = es.length := by rw [Array.length_toList, hacc.1, hsz]
      have hz : acc.toList.length ≤ sizeLine := by rw [hl, hlen]; exact size_line hc.2.1
      refine wpAny_bind (wpAny_newList ?_ hz)
      have rv : Vals (es.map fun e => V.ref e.2.1) acc.toList := vals_of_get (by rw [List.length_map, hl]) fun j u hj => by
        obtain ⟨hi, ev⟩ := hacc.2 j u (by rw [← Array.getElem?_toList]; exact hj)
        obtain ⟨en, e1, e2, e3⟩ := ents_key hi
        exact ⟨.ref en.2.1, by rw [List.getElem?_map, e1]; rfl, by rw [ev, e2]; rfl⟩
      have I2 : Inv X pins σ H1 { s1 with heap := h'.push { cls := .type "list", data := .seq acc.toList.toArray }, toks := tk } := I1.kept (t' := tk) fun c o e => Heap.get?_push_of_some _ (hk c o e)
      have I3 : Inv X pins σ H1 { s1 with heap := h', toks := tk } := I1.kept (t' := tk) hk
      have hD : (h'.push { cls := .type "list", data := .seq acc.toList.toArray }).get? h'.objs.size = some (seqObj "list" acc.toList.toArray 0) := Heap.get?_push_size _ rfl
      have hmap : ((es.map fun e => V.ref e.2.1).zip (kvs.map (·.1))).map (fun p => p.2.py) = (kvs.map (·.1)).map D.py := by rw [← zip_snd im, List.map_map, zip_snd im]; rfl
      have er3 := each_reads I3 hK rv im (srt_okp hc.1)
      have er : EachIs (fun u (p : V × D) => ∃ as, Reads (h'.push { cls := .type "list", data := .seq acc.toList.toArray }) u p.2.py as ∧ h'.objs.size ∉ as) acc.toList ((es.map fun e => V.ref e.2.1).zip (kvs.map (·.1))) :=
        er3.mono fun u p ⟨as, r⟩ => ⟨as, PyProof.Rows.Reads.keeps (fun c o e => Heap.get?_push_of_some _ e) r, fun hm => Nat.lt_irrefl _ (reads_lt r _ hm)⟩
      have main := list_sort_data (prog := X.prog) (w := X.w) (A := X.A.in1) (E := X.xe) (s := { s1 with heap := h'.push { cls := .type "list", data := .seq acc.toList.toArray }, toks := tk }) (β := V × D) (enc := fun p => p.2.py) (R := fun u p => RelV p.1 u)
        (Q := fun _ s' => EP X pins σ Q (.ref h'.objs.size) s') hD (each_zip rv im) er (by rw [hmap]; exact srt_alike hc.1) (by rw [hmap]; exact srt_sortable hc.1)
        (by rw [List.length_zip, ImL.length im, Nat.min_self]; exact size_line hc.2.1) (fun p hp => by
          have h2 : p.2 ∈ kvs.map (·.1) := by rw [← zip_snd im]; exact List.mem_map.mpr ⟨p, hp, rfl⟩
          have := srt_depth hc.1 _ h2
          have := hr.un
          show X.A.units + 1 + 1 + p.2.py.depth < cLine
          omega) fun out hlen eo => by
          obtain ⟨zs, rz, iz, lz⟩ := srt_out im hs eo
          obtain ⟨c, hcc⟩ := sortedHeap_at (vs := acc.toList) (out := out.toArray) hD
          have hn : H1 h'.objs.size = none := I3.hok.fresh (Nat.le_refl _)
          have I4 := I3.laid (a := h'.objs.size) (o := .lst zs) (h' := sortedHeap (h'.push { cls := .type "list", data := .seq acc.toList.toArray }) h'.objs.size acc.toList out.toArray) (t' := tk) (fun c o q => by
            have q' : (h'.push { cls := .type "list", data := .seq acc.toList.toArray }).get? c = some o := Heap.get?_push_of_some _ q
            rw [sortedHeap_old (Nat.ne_of_lt (Heap.lt_size q)) (Heap.lt_size q')]
            exact q') (Nat.le_refl _) ⟨by rw [lz]; exact size_line hc.2.1, out, c, rz, hcc⟩
          have u : Up b.tb H1 (upd H1 h'.objs.size (.lst zs)) := Up.new hn
          exact ⟨.ref h'.objs.size, _, I4, rfl, q1 _ zs _ (a1.up u) (k1.trans u.toKeep) (a1.bNone hn) (a1.notNew hn) upd_same (ImL.keep u.toKeep iz)⟩
      exact wpAny_bind (wpAny_holding (wpAny_mono main (fun _ s' x => wpAny_pure ⟨_, rfl, x⟩) fun _ _ e => e))
end
end DL
end
section
set_option Elab.async false
set_option linter.all false
set_option maxRecDepth 100000
set_option maxHeartbeats 2000000
namespace DL
open PySem PySem.Spec PyProof.Rows L2
section
variable {X : Cx} {b : BC} {x : XC} {k : Nat} {e e1 : Expr} {st : Stmt} {pos p p2 : Pos} {f g : Act D} {fs : Act (List D)}
/-- code that the proof never comes to -/
@[reducible] def gDead : GS := fun _ => .stuck
theorem s_dead : PS X st (tS b x gDead) := ps_never.mono fun E σ H ⟨ρ, a, q⟩ => q
@[reducible] def aDead : Act D := fun _ => .stuck
/-- x in y, a list or a tuple of data -/
def dIn (neg : Bool) : D → D → Option D := fun a y => if (a.sh && y.sh) = true then match asS y with
  | some ys => some (.bl (if neg = true then !((D.pys ys).any fun z => PyData.eqv z a.py) else (D.pys ys).any fun z => PyData.eqv z a.py))
  | none => none
  else none
theorem sh_tl {xs : List PyData} (h : SeqAt.shaped (.tuple xs) = true) : SeqAt.shaped (.list xs) = true := by
  unfold SeqAt.shaped at h ⊢
  rw [Bool.and_eq_true, decide_eq_true_iff] at h ⊢
  have e1 : (PyData.tuple xs).canLay0 = (PyData.list xs).canLay0 := by simp only [PyData.canLay0]
  have e2 : (PyData.tuple xs).depth = (PyData.list xs).depth := by simp only [PyData.depth]
  rw [e1, e2] at h
  exact h
def rInS (K : PySem.W.Frag) (neg : Bool) : R2 := fun x y H Q => ∃ d ds, Dp K H x d ∧ (Dp K H y (.list ds) ∨ Dp K H y (.tuple ds)) ∧ SeqAt.shaped d = true ∧ SeqAt.shaped (.list ds) = true ∧ Q (.bl (if neg = true then !(ds.any fun z => PyData.eqv z d) else ds.any fun z => PyData.eqv z d)) H
theorem o_inS (hu : X.A.units + 65 < cLine) : OpR X (compareOp .In) (rInS X.K false) := by
  intro pins s σ H x y v u Q I rx ry h
  obtain ⟨d, ds, hd, he, sd, se, q⟩ := h
  obtain ⟨as, r1⟩ := Dp.reads I d x v hd rx
  rcases he with he | he
  · obtain ⟨bs, r2⟩ := Dp.reads I (.list ds) y u he ry
    exact SeqAt.in_list_reads r2 r1 (SeqAt.canLay_of_shaped se) (SeqAt.canLay_of_shaped sd) (room_in_shaped sd hu) ⟨.bl _, H, I, rfl, q⟩
  · obtain ⟨bs, r2⟩ := Dp.reads I (.tuple ds) y u he ry
    exact SeqAt.in_tuple_reads r2 r1 (SeqAt.canLay_of_shaped se) (SeqAt.canLay_of_shaped sd) (room_in_shaped sd hu) ⟨.bl _, H, I, rfl, q⟩
theorem o_notInS (hu : X.A.units + 65 < cLine) : OpR X (compareOp .NotIn) (rInS X.K true) := by
  intro pins s σ H x y v u Q I rx ry h
  obtain ⟨d, ds, hd, he, sd, se, q⟩ := h
  obtain ⟨as, r1⟩ := Dp.reads I d x v hd rx
  rcases he with he | he
  · obtain ⟨bs, r2⟩ := Dp.reads I (.list ds) y u he ry
    exact SeqAt.notIn_list_reads r2 r1 (SeqAt.canLay_of_shaped se) (SeqAt.canLay_of_shaped sd) (room_in_shaped sd hu) ⟨.bl _, H, I, rfl, q⟩
  · obtain ⟨bs, r2⟩ := Dp.reads I (.tuple ds) y u he ry
    exact SeqAt.notIn_tuple_reads r2 r1 (SeqAt.canLay_of_shaped se) (SeqAt.canLay_of_shaped sd) (room_in_shaped sd hu) ⟨.bl _, H, I, rfl, q⟩
theorem s_inS (b : BC) (neg : Bool) : Sd2 b (rInS b.K neg) (dIn neg) := fun H x y dx dy d Q ix iy e q => by
  unfold dIn at e
  split at e
  · rename_i hs
    rw [Bool.and_eq_true] at hs
    obtain ⟨o1, s1⟩ := sh_of hs.1
    obtain ⟨o2, s2⟩ := sh_of hs.2
    split at e
    · rename_i ys ey
      cases e
      cases dy with
      | tup zs =>
        cases ey
        have dp := dp_of iy o2
        rw [D.py] at dp s2
        exact ⟨_, _, dp_of ix o1, .inr dp, s1, sh_tl s2, fin_val q (.bl _)⟩
      | lst zs =>
        cases ey
        have dp := dp_of iy o2
        rw [D.py] at dp s2
        exact ⟨_, _, dp_of ix o1, .inl dp, s1, s2, fin_val q (.bl _)⟩
      | _ => cases ey
    · cases e
  · cases e
theorem bl_in {neg : Bool} : ∀ d1 d2 d, dIn neg d1 d2 = some d → ∃ k, d = .bl k := fun d1 d2 d e => by
  unfold dIn at e
  split at e
  · split at e
    · cases e; exact ⟨_, rfl⟩
    · cases e
  · cases e
def D.nn : D → Bool
  | .non => false
  | .dct _ => false
  | .op _ => false
  | _ => true
/-- x < y, alike data -/
def dLtD (a c : D) : Option D := if (a.okp && c.okp && PySem.W.alike a.py c.py) = true ∧ a.py.depth ≤ 30 ∧ a.nn = true then some (.bl (dLtB a c)) else none
def rLtD (K : PySem.W.Frag) : R2 := fun x y H Q => ∃ d e, Dp K H x d ∧ Dp K H y e ∧ PySem.W.alike d e = true ∧ d ≠ .none ∧ d.depth ≤ 30 ∧ Q (.bl (PySem.W.dataLt d e)) H
theorem op_ltD (hu : X.A.units + 65 < cLine) : OpR X (compareOp .Lt) (rLtD X.K) := by
  intro pins s σ H x y v u Q I rx ry h
  obtain ⟨d, e, hd, he, ha, hn, hz, q⟩ := h
  obtain ⟨as, r1⟩ := Dp.reads I d x v hd rx
  obtain ⟨bs, r2⟩ := Dp.reads I e y u he ry
  exact PySem.W.lt_data r1 r2 ha hn (by have := Nat.min_le_left d.depth e.depth; omega) ⟨.bl _, H, I, rfl, q⟩
theorem s_ltD (b : BC) : Sd2 b (rLtD b.K) dLtD := fun H x y dx dy d Q ix iy e q => by
  unfold dLtD at e
  split at e
  · rename_i h
    cases e
    obtain ⟨h1, h2, h3⟩ := h
    rw [Bool.and_eq_true, Bool.and_eq_true] at h1
    refine ⟨_, _, dp_of ix h1.1.1, dp_of iy h1.1.2, h1.2, ?_, h2, fin_val q (.bl _)⟩
    cases dx with
    | non => cases h3
    | dct _ => cases h3
    | op _ => cases h3
    | _ => intro z; rw [D.py] at z; cases z
  · cases e
theorem bl_ltD : ∀ d1 d2 d, dLtD d1 d2 = some d → ∃ k, d = .bl k := fun d1 d2 d e => by
  unfold dLtD at e
  split at e
  · cases e; exact ⟨_, rfl⟩
  · cases e
/-- sum of a list or a tuple of ints -/
def rSumS (K : PySem.W.Frag) : List V → Hp → VK → Prop := fun vs H Q => ∃ (a : Addr) (ns : List Int), vs = [.ref a] ∧ (SqL K H a (ns.map V.int) ∨ SqT K H a (ns.map V.int)) ∧ Q (.int ns.sum) H
theorem c_sum (hc : X.calm = true) : CallR X (.builtin "sum") (rSumS X.K) := by
  intro pins s σ H vs us Q I r h
  obtain ⟨a, ns, rfl, hs, q⟩ := h
  rcases hs with hs | hs
  · exact cr_sum hc pins s σ H _ _ Q I r ⟨a, ns, rfl, hs, q⟩
  · obtain ⟨its, rv, hl, _⟩ := I.tuple hs
    rw [Vals.ref1 r]
    have hi := rv.ints
    obtain ⟨xs, e⟩ := hi.allInts.items
    have hn : numsOf (intItems xs).toList = ns := by rw [← e]; exact hi.numsOf
    rw [nums_intItems] at hn
    have hl' : s.heap.IsTuple a (intItems xs) := by rw [← e]; exact hl
    refine PySem.W.ktm_sumG (I.ok.hd hc) hl' fun h' tk t' hk => ?_
    rw [preSum_eq, List.take_of_length_le (by simp), hn]
    exact ⟨.int _, H, I.kept hk, ⟨_, rfl⟩, q⟩
def dSum : List D → Option D
  | [.lst xs] => (D.ints xs).map fun ns => .int ns.sum
  | [.tup xs] => (D.ints xs).map fun ns => .int ns.sum
  | _ => none
theorem s_sum (b : BC) : SdN b (rSumS b.K) dSum := fun H xs ds d Q im e q => by
  unfold dSum at e
  split at e
  · obtain ⟨ns, e1, rfl⟩ := Option.map_eq_some_iff.mp e
    cases im with
    | cons i im =>
      cases im
      obtain ⟨a1, v1, rfl, s1, m1⟩ := rd_lst i
      obtain ⟨rfl, _⟩ := ints_of m1 e1
      exact ⟨a1, ns, rfl, .inl (.inl s1), fin_val q (.int _)⟩
  · obtain ⟨ns, e1, rfl⟩ := Option.map_eq_some_iff.mp e
    cases im with
    | cons i im =>
      cases im
      cases i with
      | tup h m1 =>
        obtain ⟨rfl, _⟩ := ints_of m1 e1
        exact ⟨_, ns, rfl, .inr h, fin_val q (.int _)⟩
  · cases e
/-- t[i:], a tuple, a part of it -/
def dTail : D → D → Option D
  | .tup xs, .int i => if 0 < i ∧ xs.length ≠ 0 then some (.tup (xs.drop i.toNat)) else none
  | _, _ => none
theorem px_tail {e0 : Expr} (he : PE X e0 (tD b x f)) (hl : PE X e1 (tD b x g)) (hK : X.K = b.K) : PE X (.Subscript e0 (.Slice (some e1) none none p2) pos) (tD b x (a2 dTail f g)) :=
  (pe_frz (pe_slice sl_tup he (po_some hl) po_none)).mono fun σ H Q ⟨ρ, a, q⟩ => tD_step (Keep.refl H) a q fun d1 ρ1 v1 H1 a1 k1 i1 q1 => tD_step k1 a1 q1 fun d2 ρ2 v2 H2 a2 k2 i2 q2 => by
    obtain ⟨d, e, q3⟩ := lift_go q2
    unfold dTail at e
    split at e
    · rename_i xs i
      split at e
      · rename_i hc
        cases e
        cases i2
        cases i1 with
        | @tup c vs _ h im =>
          have hl := ImL.length im
          have hs : HT.sIx vs.length 0 (some i) = min i.toNat vs.length := by
            show (if i < 0 then _ else min i.toNat vs.length) = _
            rw [if_neg (by omega)]
          refine ⟨i, rfl, c, vs, rfl, by rw [hK]; exact SqT.kept k2 h, fun z => ?_, fun p hp => ?_⟩
          · rw [hs] at z
            have := z.1
            omega
          · have u : Up b.tb H2 (upd H2 p (.tup (cutV vs (some i) none))) := Up.new hp
            have ec : cutV vs (some i) none = vs.drop i.toNat := by
              unfold cutV
              rw [hs, HT.sIx_none]
              by_cases hle : i.toNat ≤ vs.length
              · rw [Nat.min_eq_left hle, List.take_of_length_le (by rw [List.length_drop]; exact Nat.le_refl _)]
              · rw [Nat.min_eq_right (by omega), List.drop_eq_nil_of_le (Nat.le_refl _), List.drop_eq_nil_of_le (by omega)]; simp
            exact .inl (q3 _ _ (a2.up u) ((k1.trans k2).trans u.toKeep) (.tup (SqT.of upd_same) (ImL.keep u.toKeep (by rw [ec]; exact ImL.drop i.toNat (ImL.keep k2 im)))))
      · cases e
    · cases e
end
end DL
end
section
set_option Elab.async false
set_option linter.all false
set_option maxRecDepth 100000
set_option maxHeartbeats 2000000
namespace DL
open PySem PySem.Spec PyProof.Rows L2
/-! ### [e for .. in .. for .. in ..] -/
def cGo2 (t : Tg) (c : Act Bool) (fi1 : Act (List D)) (t1 : Tg) (c1 : Act Bool) (f : Act D) (vs vs1 : List Nat) : List D → List D → Act (List D)
  | [], acc => fun ρ => .ok acc ρ
  | d :: ds, acc => fun ρ => match t d ρ with
    | none => .stuck
    | some ρ1 => match c ρ1 with
      | .ok true ρ2 => match fi1 ρ2 with
        | .ok xs1 ρ3 => match cGo t1 c1 f vs1 xs1 acc (wipeD ρ3 vs1) with
          | .ok acc2 ρ4 => cGo2 t c fi1 t1 c1 f vs vs1 ds acc2 (wipeD ρ4 vs)
          | _ => .stuck
        | _ => .stuck
      | .ok false ρ2 => cGo2 t c fi1 t1 c1 f vs vs1 ds acc (wipeD ρ2 vs)
      | _ => .stuck
@[reducible] def aComp2 (vs vs1 : List Nat) (fi : Act (List D)) (t : Tg) (c : Act Bool) (fi1 : Act (List D)) (t1 : Tg) (c1 : Act Bool) (f : Act D) : Act (List D) := fi.bind fun xs => fun ρ => cGo2 t c fi1 t1 c1 f vs vs1 xs [] (wipeD ρ vs)
theorem wipe_wipe {σ : L2.St} {vs vs1 : List Nat} (hv : ∀ j ∈ vs1, j ∈ vs) : wipe (wipe σ vs1) vs = wipe σ vs := by
  apply List.ext_getElem?
  intro i
  rw [wipe_get, wipe_get, wipe_get, wipe_length]
  by_cases h : i ∈ vs ∧ i < σ.length
  · rw [if_pos h, if_pos h]
  · rw [if_neg h, if_neg h, if_neg (fun z => h ⟨hv i z.1, z.2⟩)]
section
variable {X : Cx} {b : BC} {x : XC} {e elt tg iter tg1 iter1 : Expr} {ifs ifs1 es : List Expr} {pos p : Pos} {f : Act D} {fs fi fi1 : Act (List D)} {t t1 : Tg} {cf cf1 : Act Bool} {l l1 : List Nat} {scope : Scope} {own : List (Str × Nat)}
theorem pi_ex {ι : Type} {tt : ι → TI} (h : ∀ i, PI X tg e (tt i)) : PI X tg e (fun σ H R => ∃ i, tt i σ H R) := ⟨fun pins s σ H R I ⟨i, q⟩ => (h i).run pins s σ H R I q⟩
theorem lc2_reads {σ : L2.St} {H : Hp} {Q : VK} {vs vs1 : List Nat} (hl : ∀ j ∈ l, j ∈ vs) (hl1 : ∀ j ∈ l1, j ∈ vs1) (hv : ∀ j ∈ vs1, j ∈ vs) (hp : b.pin = none ∨ 0 ∉ vs) (h : tF b x (aComp2 vs vs1 fi t cf fi1 t1 cf1 f) σ H Q) :
    tLc2 (wD b x fi) (fun v σ H Q => ∃ B', gD (b.wB B') t l v σ H Q) (fun σ H Q => ∃ B', tT (b.wB B') .no cf σ H Q) (fun σ H R => ∃ B', wD (b.wB B') .no fi1 σ H R) (fun v σ H Q => ∃ B', gD (b.wB B') t1 l1 v σ H Q) (fun σ H Q => ∃ B', tT (b.wB B') .no cf1 σ H Q) (fun σ H Q => ∃ B', tD (b.wB B') .no f σ H Q) vs vs1 σ H Q := by
  obtain ⟨ρ, a, q⟩ := h
  have hp1 : b.pin = none ∨ 0 ∉ vs1 := hp.imp_right fun z q => z (hv 0 q)
  refine wD_step a q fun xs ρ1 J H1 a1 k1 ⟨G, Y, w, g0, gk, hy⟩ q1 => fun Dl hD => ?_
  have hB : b.B Dl = none := a1.bNone hD
  have up1 : Up b.tb H1 (upd H1 Dl (.lst [])) := Up.new hD
  refine ⟨fun i m H' => m = xs.length - i ∧ i ≤ xs.length ∧ ∃ ρi acc vacc, H' Dl = some (.lst vacc) ∧ b.ImL H' vacc acc ∧ At b (wipe σ vs) ρi H' ∧ G H' ∧ Keep H H' ∧
    (∀ (j : Nat) (y : Cell), ρi[j]? = some (some y) → y.own → (wipe σ vs)[j]? ≠ some (some (V.ref Dl))) ∧
    Go b x σ H (cGo2 t cf fi1 t1 cf1 f vs vs1 (xs.drop i) acc ρi) (fun ds ρ' => ∀ p ws H', At b σ ρ' H' → Keep H H' → b.B p = none → (∀ (j : Nat) (y : Cell), ρ'[j]? = some (some y) → y.own → σ[j]? ≠ some (some (V.ref p))) → H' p = some (.lst ws) → b.ImL H' ws ds → Q (.ref p) H'),
    ⟨xs.length, rfl, Nat.zero_le _, wipeD ρ1 vs, [], [], upd_same, .nil, (a1.up up1).wipe hp, gk _ _ g0 up1.toKeep, k1.trans up1.toKeep, ?_, q1⟩, ?_⟩
  · exact (a1.wipe hp).notNew hD
  · rintro i m H' ⟨rfl, hi, ρi, acc, vacc, hDl, im, ai, gi, ki, hn, qi⟩
    by_cases hlt : i < xs.length
    · refine .inr ⟨w.goes i H' hlt gi, fun H2 => ∃ ρ2 acc2 vacc2, H2 Dl = some (.lst vacc2) ∧ b.ImL H2 vacc2 acc2 ∧ At b (wipe σ vs) ρ2 H2 ∧ G H2 ∧ Keep H H2 ∧
        (∀ (j : Nat) (y : Cell), ρ2[j]? = some (some y) → y.own → (wipe σ vs)[j]? ≠ some (some (V.ref Dl))) ∧
        Go b x σ H (cGo2 t cf fi1 t1 cf1 f vs vs1 (xs.drop (i + 1)) acc2 ρ2) (fun ds ρ' => ∀ p ws H', At b σ ρ' H' → Keep H H' → b.B p = none → (∀ (j : Nat) (y : Cell), ρ'[j]? = some (some y) → y.own → σ[j]? ≠ some (some (V.ref p))) → H' p = some (.lst ws) → b.ImL H' ws ds → Q (.ref p) H'),
        fun H2 z => ⟨xs.length - (i + 1), by omega, rfl, hlt, z⟩, fun v H2 y => ?_⟩
      obtain ⟨u, d, hd, iv⟩ := hy i H' v H2 hlt gi (w.yields i H' v H2 hlt gi y)
      have ed : xs.drop i = d :: xs.drop (i + 1) := by
        rw [List.drop_eq_getElem_cons hlt]
        have := (List.getElem?_eq_some_iff.mp hd).2
        rw [this]
      rw [ed] at qi
      unfold cGo2 at qi
      have hDl2 : H2 Dl = some (.lst vacc) := u.keep _ _ hDl (fun _ z => by cases z)
      have a2 : At b (wipe σ vs) ρi H2 := ai.up u
      have b2 : At (b.wB (upd b.B Dl (.lst vacc))) (wipe σ vs) ρi H2 := a2.lockB hDl2 (fun _ z => by cases z) hn
      have g2 : G H2 := gk _ _ gi u.toKeep
      have im2 := ImL.keep u.toKeep im
      have k2 := ki.trans u.toKeep
      -- the end of a turn
      have fin : ∀ {σ3 : L2.St} {ρ3 : DEnv} {H3 : Hp}, At (b.wB (upd b.B Dl (.lst vacc))) σ3 ρ3 H3 → Keep H2 H3 → wipe σ3 vs = wipe σ vs → H3 Dl = some (.lst vacc) ∧ At b (wipe σ vs) (wipeD ρ3 vs) H3 ∧ (∀ (j : Nat) (y : Cell), (wipeD ρ3 vs)[j]? = some (some y) → y.own → (wipe σ vs)[j]? ≠ some (some (V.ref Dl))) := fun {σ3 ρ3 H3} a3 k3 ew => by
        refine ⟨a3.ext.keep Dl _ upd_same (fun _ z => by cases z), ?_, ?_⟩
        · rw [← ew]; exact (a3.unlockB hB).wipe hp
        · rw [← ew]; exact (At.wipe a3 hp).notLocked
      cases e1 : t d ρi with
      | none => rw [e1] at qi; exact qi.elim
      | some ρ2 =>
        simp only [e1] at qi
        refine ⟨upd b.B Dl (.lst vacc), ρi, d, ρ2, b2, iv, e1, fun σ2 a3 l3 s3 => ?_⟩
        have ew : wipe σ2 vs = wipe σ vs := wipe_eq hl l3 s3
        refine ⟨ew, upd b.B Dl (.lst vacc), ρ2, a3, ?_⟩
        cases e2 : cf ρ2 with
        | ok c ρ3 =>
          simp only [e2] at qi
          intro H3 a4 k4
          cases c with
          | false =>
            obtain ⟨z1, z2, z3⟩ := fin a4 k4 ew
            exact ⟨_, acc, vacc, z1, ImL.keep k4 im2, z2, gk _ _ g2 k4, k2.trans k4, z3, qi⟩
          | true =>
            simp only at qi
            refine ⟨upd b.B Dl (.lst vacc), ρ3, a4, ?_⟩
            cases e3 : fi1 ρ3 with
            | exc e' ρ4 => simp only [e3] at qi; exact qi.elim
            | stuck => simp only [e3] at qi; exact qi.elim
            | ok xs1 ρ4 =>
              simp only [e3] at qi
              intro J1 H4 a5 k5 ⟨G1, Y1, w1, g01, gk1, hy1⟩
              cases e4 : cGo t1 cf1 f vs1 xs1 acc (wipeD ρ4 vs1) with
              | exc e' ρ4 => simp only [e4] at qi; exact qi.elim
              | stuck => simp only [e4] at qi; exact qi.elim
              | ok accZ ρZ =>
                simp only [e4] at qi
                have hDl4 : H4 Dl = some (.lst vacc) := a5.ext.keep Dl _ upd_same (fun _ z => by cases z)
                refine ⟨fun j k H' => k = xs1.length - j ∧ j ≤ xs1.length ∧ ∃ ρj accj vaccj, H' Dl = some (.lst vaccj) ∧ b.ImL H' vaccj accj ∧ At b (wipe σ2 vs1) ρj H' ∧ G1 H' ∧ G H' ∧ Keep H H' ∧
                  (∀ (j : Nat) (y : Cell), ρj[j]? = some (some y) → y.own → (wipe σ2 vs1)[j]? ≠ some (some (V.ref Dl))) ∧ cGo t1 cf1 f vs1 (xs1.drop j) accj ρj = .ok accZ ρZ,
                  ⟨xs1.length, rfl, Nat.zero_le _, wipeD ρ4 vs1, acc, vacc, hDl4, ImL.keep (k4.trans k5) im2, (a5.unlockB hB).wipe hp1, g01, gk _ _ g2 (k4.trans k5), k2.trans (k4.trans k5), (At.wipe a5 hp1).notLocked, e4⟩, ?_⟩
                rintro j k H5 ⟨rfl, hj, ρj, accj, vaccj, hDj, imj, aj, gj1, gj, kj, hnj, qj⟩
                by_cases hltj : j < xs1.length
                · refine .inr ⟨w1.goes j H5 hltj gj1, fun H6 => ∃ ρj accj vaccj, H6 Dl = some (.lst vaccj) ∧ b.ImL H6 vaccj accj ∧ At b (wipe σ2 vs1) ρj H6 ∧ G1 H6 ∧ G H6 ∧ Keep H H6 ∧
                    (∀ (j : Nat) (y : Cell), ρj[j]? = some (some y) → y.own → (wipe σ2 vs1)[j]? ≠ some (some (V.ref Dl))) ∧ cGo t1 cf1 f vs1 (xs1.drop (j + 1)) accj ρj = .ok accZ ρZ,
                    fun H6 z => ⟨xs1.length - (j + 1), by omega, rfl, hltj, z⟩, fun v6 H6 y6 => ?_⟩
                  obtain ⟨u6, d6, hd6, iv6⟩ := hy1 j H5 v6 H6 hltj gj1 (w1.yields j H5 v6 H6 hltj gj1 y6)
                  have ed6 : xs1.drop j = d6 :: xs1.drop (j + 1) := by
                    rw [List.drop_eq_getElem_cons hltj]
                    have := (List.getElem?_eq_some_iff.mp hd6).2
                    rw [this]
                  rw [ed6] at qj
                  unfold cGo at qj
                  have hDl6 : H6 Dl = some (.lst vaccj) := u6.keep _ _ hDj (fun _ z => by cases z)
                  have b6 : At (b.wB (upd b.B Dl (.lst vaccj))) (wipe σ2 vs1) ρj H6 := (aj.up u6).lockB hDl6 (fun _ z => by cases z) hnj
                  have g6 : G H6 := gk _ _ gj u6.toKeep
                  have g61 : G1 H6 := gk1 _ _ gj1 u6.toKeep
                  have im6 := ImL.keep u6.toKeep imj
                  have k6 := kj.trans u6.toKeep
                  have fin6 : ∀ {σ3 : L2.St} {ρ3 : DEnv} {H3 : Hp}, At (b.wB (upd b.B Dl (.lst vaccj))) σ3 ρ3 H3 → Keep H6 H3 → wipe σ3 vs1 = wipe σ2 vs1 → H3 Dl = some (.lst vaccj) ∧ At b (wipe σ2 vs1) (wipeD ρ3 vs1) H3 ∧ (∀ (j : Nat) (y : Cell), (wipeD ρ3 vs1)[j]? = some (some y) → y.own → (wipe σ2 vs1)[j]? ≠ some (some (V.ref Dl))) := fun {σ3 ρ3 H3} a3 k3 ew => by
                    refine ⟨a3.ext.keep Dl _ upd_same (fun _ z => by cases z), ?_, ?_⟩
                    · rw [← ew]; exact (a3.unlockB hB).wipe hp1
                    · rw [← ew]; exact (At.wipe a3 hp1).notLocked
                  cases e5 : t1 d6 ρj with
                  | none => rw [e5] at qj; cases qj
                  | some ρ6 =>
                    simp only [e5] at qj
                    refine ⟨upd b.B Dl (.lst vaccj), ρj, d6, ρ6, b6, iv6, e5, fun σ6 a7 l7 s7 => ?_⟩
                    have ew6 : wipe σ6 vs1 = wipe σ2 vs1 := wipe_eq hl1 l7 s7
                    refine ⟨ew6, upd b.B Dl (.lst vaccj), ρ6, a7, ?_⟩
                    cases e6 : cf1 ρ6 with
                    | ok c7 ρ7 =>
                      simp only [e6] at qj
                      intro H7 a8 k8
                      cases c7 with
                      | false =>
                        obtain ⟨z1, z2, z3⟩ := fin6 a8 k8 ew6
                        exact ⟨_, accj, vaccj, z1, ImL.keep k8 im6, z2, gk1 _ _ g61 k8, gk _ _ g6 k8, k6.trans k8, z3, qj⟩
                      | true =>
                        simp only at qj
                        refine ⟨upd b.B Dl (.lst vaccj), ρ7, a8, ?_⟩
                        cases e7 : f ρ7 with
                        | ok y8 ρ8 =>
                          simp only [e7] at qj
                          split at qj
                          · rename_i hlen
                            intro v8 H8 a9 k9 i9
                            obtain ⟨z1, z2, z3⟩ := fin6 a9 (k8.trans k9) ew6
                            refine ⟨vaccj, z1, by rw [ImL.length imj]; exact Nat.lt_of_lt_of_le hlen (size_line (Nat.le_refl _)), ?_⟩
                            have km : Keep H8 (upd H8 Dl (.lst (vaccj ++ [v8]))) := Keep.mut z1 (fun _ z => by cases z) (fun _ _ z => by cases z)
                            exact ⟨_, accj ++ [y8], vaccj ++ [v8], upd_same, (ImL.keep km (ImL.keep (k8.trans k9) im6)).append (.cons (Im.keep km i9) .nil), z2.other hB z1 (fun _ z => by cases z) (fun _ _ z => by cases z) (fun _ z => by cases z) z3, gk1 _ _ (gk1 _ _ g61 (k8.trans k9)) km, gk _ _ (gk _ _ g6 (k8.trans k9)) km, (k6.trans (k8.trans k9)).trans km, z3, qj⟩
                          · cases qj
                        | exc e' ρ4 => simp only [e7] at qj; cases qj
                        | stuck => simp only [e7] at qj; cases qj
                    | exc e' ρ3 => simp only [e6] at qj; cases qj
                    | stuck => simp only [e6] at qj; cases qj
                · have ej : j = xs1.length := by omega
                  subst ej
                  rw [List.drop_eq_nil_of_le (Nat.le_refl _)] at qj
                  cases qj
                  have ww : wipe (wipe σ2 vs1) vs = wipe σ vs := (wipe_wipe hv).trans ew
                  have bl := aj.lockB hDj (fun _ z => by cases z) hnj
                  refine .inl ⟨w1.stops H5 gj1, ⟨_, accZ, vaccj, hDj, imj, ?_, gj, kj, ?_, qi⟩⟩
                  · rw [← ww]; exact aj.wipe hp
                  · rw [← ww]; exact (At.wipe bl hp).notLocked
        | exc e' ρ3 => simp only [e2] at qi; exact qi.elim
        | stuck => simp only [e2] at qi; exact qi.elim
    · have ei : i = xs.length := by omega
      subst ei
      rw [List.drop_eq_nil_of_le (Nat.le_refl _)] at qi
      refine .inl ⟨w.stops H' gi, qi Dl vacc H' (ai.weak (wipe_length σ vs).symm fun j v e => (wipe_some e).1) ki hB (fun j y e o z => ?_) hDl im⟩
      obtain ⟨v, hv, _⟩ := ai.cells j y e
      have := (wipe_some hv).1
      rw [z] at this; cases this
      exact hn j y e o hv
theorem px_lc2 {vs1 : List Nat} (hc : X.calm = true) (hN : X.N.Nodup) (hi : PI X tg iter (wD b x fi)) (ok : BlkOk X.N X.env.scope scope own)
    (hg : ∀ (B' : Hp) (s : Shared) (H : Hp) (C : Addr) (cl : List (Str × Addr)) (fp : List Addr), PG (X.blk s H scope (compEnvC scope cl C X.env) fp) tg (gD (b.wB B') t l))
    (ht : ∀ (B' : Hp) (s : Shared) (H : Hp) (C : Addr) (cl : List (Str × Addr)) (fp : List Addr), PTs (X.blk s H scope (compEnvC scope cl C X.env) fp) ifs (tT (b.wB B') .no cf))
    (hi1 : ∀ (B' : Hp) (s : Shared) (H : Hp) (C : Addr) (cl : List (Str × Addr)) (fp : List Addr), PI (X.blk s H scope (compEnvC scope cl C X.env) fp) tg1 iter1 (wD (b.wB B') .no fi1))
    (hg1 : ∀ (B' : Hp) (s : Shared) (H : Hp) (C : Addr) (cl : List (Str × Addr)) (fp : List Addr), PG (X.blk s H scope (compEnvC scope cl C X.env) fp) tg1 (gD (b.wB B') t1 l1))
    (ht1 : ∀ (B' : Hp) (s : Shared) (H : Hp) (C : Addr) (cl : List (Str × Addr)) (fp : List Addr), PTs (X.blk s H scope (compEnvC scope cl C X.env) fp) ifs1 (tT (b.wB B') .no cf1))
    (he : ∀ (B' : Hp) (s : Shared) (H : Hp) (C : Addr) (cl : List (Str × Addr)) (fp : List Addr), PE (X.blk s H scope (compEnvC scope cl C X.env) fp) elt (tD (b.wB B') .no f))
    (hl : ∀ j ∈ l, j ∈ own.map (·.2)) (hl1 : ∀ j ∈ l1, j ∈ vs1) (hv : ∀ j ∈ vs1, j ∈ own.map (·.2)) (hp : b.pin = none ∨ 0 ∉ own.map (·.2)) (hs : ∀ x, foldedSetIterable iter X.env x = pure x := by intro _; rfl) (hs1 : ∀ env x, foldedSetIterable iter1 env x = pure x := by intro _ _; rfl) :
    PE X (.ListComp elt [⟨tg, iter, ifs, 0⟩, ⟨tg1, iter1, ifs1, 0⟩] scope pos) (tF b x (aComp2 (own.map (·.2)) vs1 fi t cf fi1 t1 cf1 f)) :=
  (pe_lc2 hc hN hi ok hv (fun s H C cl fp => pg_ex fun B' => hg B' s H C cl fp) (fun s H C cl fp => pts_ex fun B' => ht B' s H C cl fp) (fun s H C cl fp => pi_ex fun B' => hi1 B' s H C cl fp) (fun s H C cl fp => pg_ex fun B' => hg1 B' s H C cl fp) (fun s H C cl fp => pts_ex fun B' => ht1 B' s H C cl fp) (fun s H C cl fp => pe_ex fun B' => he B' s H C cl fp) hs hs1).mono fun σ H Q h => lc2_reads hl hl1 hv hp h
theorem s_setLc2 {vs1 : List Nat} {i : Nat} {y : Str} {py spos : Pos} (hpi : b.pin = none ∨ i ≠ 0) (hc : X.calm = true) (hN : X.N.Nodup) (hy : X.N[i]? = some y) (hyl : X.env.scope.names.lookup y = some .local)
    (hsw : swapsWith (.ListComp elt [⟨tg, iter, ifs, 0⟩, ⟨tg1, iter1, ifs1, 0⟩] scope pos) (some (.Name y py)) spos.line X.env = pure true) (hi : PI X tg iter (wD b x fi)) (ok : BlkOk X.N X.env.scope scope own)
    (hg : ∀ (B' : Hp) (s : Shared) (H : Hp) (C : Addr) (cl : List (Str × Addr)) (fp : List Addr), PG (X.blk s H scope (compEnvC scope cl C X.env) fp) tg (gD (b.wB B') t l))
    (ht : ∀ (B' : Hp) (s : Shared) (H : Hp) (C : Addr) (cl : List (Str × Addr)) (fp : List Addr), PTs (X.blk s H scope (compEnvC scope cl C X.env) fp) ifs (tT (b.wB B') .no cf))
    (hi1 : ∀ (B' : Hp) (s : Shared) (H : Hp) (C : Addr) (cl : List (Str × Addr)) (fp : List Addr), PI (X.blk s H scope (compEnvC scope cl C X.env) fp) tg1 iter1 (wD (b.wB B') .no fi1))
    (hg1 : ∀ (B' : Hp) (s : Shared) (H : Hp) (C : Addr) (cl : List (Str × Addr)) (fp : List Addr), PG (X.blk s H scope (compEnvC scope cl C X.env) fp) tg1 (gD (b.wB B') t1 l1))
    (ht1 : ∀ (B' : Hp) (s : Shared) (H : Hp) (C : Addr) (cl : List (Str × Addr)) (fp : List Addr), PTs (X.blk s H scope (compEnvC scope cl C X.env) fp) ifs1 (tT (b.wB B') .no cf1))
    (he : ∀ (B' : Hp) (s : Shared) (H : Hp) (C : Addr) (cl : List (Str × Addr)) (fp : List Addr), PE (X.blk s H scope (compEnvC scope cl C X.env) fp) elt (tD (b.wB B') .no f))
    (hl : ∀ j ∈ l, j ∈ own.map (·.2)) (hl1 : ∀ j ∈ l1, j ∈ vs1) (hv : ∀ j ∈ vs1, j ∈ own.map (·.2)) (hp : b.pin = none ∨ 0 ∉ own.map (·.2)) (hs : ∀ x, foldedSetIterable iter X.env x = pure x := by intro _; rfl) (hs1 : ∀ env x, foldedSetIterable iter1 env x = pure x := by intro _ _; rfl) :
    PS X (.Assign [.Name y py] (.ListComp elt [⟨tg, iter, ifs, 0⟩, ⟨tg1, iter1, ifs1, 0⟩] scope pos) spos) (tS b x (gSet i (aLst (aComp2 (own.map (·.2)) vs1 fi t cf fi1 t1 cf1 f)))) := by
  have base := ps_setLc2 hc hN hy hyl hsw hi ok hv (fun s H C cl fp => pg_ex fun B' => hg B' s H C cl fp) (fun s H C cl fp => pts_ex fun B' => ht B' s H C cl fp) (fun s H C cl fp => pi_ex fun B' => hi1 B' s H C cl fp) (fun s H C cl fp => pg_ex fun B' => hg1 B' s H C cl fp) (fun s H C cl fp => pts_ex fun B' => ht1 B' s H C cl fp) (fun s H C cl fp => pe_ex fun B' => he B' s H C cl fp) hs hs1
  refine ⟨fun pins s σ H E I h => ?_⟩
  obtain ⟨ρ, a, q⟩ := h
  have h2 : GoS b x H (gOf (aComp2 (own.map (·.2)) vs1 fi t cf fi1 t1 cf1 f) (fun xs ρ => .nx (ρ.set i (some (.d (.lst xs))))) ρ) E := by
    have e : gSet i (aLst (aComp2 (own.map (·.2)) vs1 fi t cf fi1 t1 cf1 f)) ρ = gOf (aComp2 (own.map (·.2)) vs1 fi t cf fi1 t1 cf1 f) (fun xs ρ => .nx (ρ.set i (some (.d (.lst xs))))) ρ := by
      show gOf (aLst _) _ ρ = _
      unfold gOf aLst
      generalize aComp2 (own.map (·.2)) vs1 fi t cf fi1 t1 cf1 f = g
      unfold Act.bind
      cases g ρ with
      | ok a ρ1 => rfl
      | exc e ρ1 => rfl
      | stuck => rfl
    rw [e] at q
    exact q
  -- the list is stored, then frozen
  refine thn (base.run pins s σ H { E with nx := fun σ' H' => ∃ p vs, H' p = some (.lst vs) ∧ ∀ o, E.nx σ' (upd H' p (.frz o (.lst vs))) } I
    (lc2_reads (Q := fun v H1 => ∃ p vs, H1 p = some (.lst vs) ∧ ∀ o, E.nx (σ.set i (some v)) (upd H1 p (.frz o (.lst vs)))) hl hl1 hv hp (tF_S a h2 fun ds ρ1 p vs H1 a1 k1 hB hn hp i1 q1 => ⟨p, vs, hp, fun o => ?_⟩))) fun fl s1 hq => ?_
  · have km : Keep H1 (upd H1 p (.frz o (.lst vs))) := Keep.mut hp (fun _ z => by cases z) (fun _ _ z => by cases z)
    exact q1 _ _ ((a1.other hB hp (fun _ z => by cases z) (fun _ _ z => by cases z) (fun _ z => by cases z) hn).set hpi (.lst ⟨o, upd_same⟩ (ImL.keep km i1))) (k1.trans km)
  · cases fl with
    | next =>
      obtain ⟨σ', H', I', p, vs, hpp, qq⟩ := hq
      obtain ⟨o, I2⟩ := I'.freeze hpp trivial (fun _ _ _ z => by cases z)
      exact ⟨σ', _, I2, qq o⟩
    | ret v => exact hq
    | brk => exact hq
    | cont => exact hq
end
end DL
end
section
set_option Elab.async false
set_option linter.all false
set_option maxRecDepth 100000
set_option maxHeartbeats 2000000
namespace DL
open PySem PySem.Spec PyProof.Rows L2
theorem pa_ex {X : Cx} {es : List Expr} {ι : Type} {t : ι → TA} (h : ∀ i, PA X es (t i)) : PA X es (fun σ H Q => ∃ i, t i σ H Q) := ⟨fun pos pins s σ H Q I ⟨i, q⟩ => (h i).run pos pins s σ H Q I q⟩
section
variable {X : Cx} {b : BC} {x : XC} {k : Nat} {e1 e2 : Expr} {pos p1 p2 p3 pt pt2 dp : Pos} {f : Act D} {fs : Act (List D)} {n1 n2 n3 : Str} {kt k2 i j l : Nat}
/-- a, b, c = {}, e1, e2; a owned -/
@[reducible] def gPar3K (i j l : Nat) (fs : Act (List D)) : GS := fun ρ => match fs ρ with
  | .ok [d1, d2] ρ1 => .nx (((ρ1.set i (some (.k []))).set j (some (.d d1))).set l (some (.d d2)))
  | _ => .stuck
theorem s_par3K (hpi : b.pin = none ∨ i ≠ 0) (hpj : b.pin = none ∨ j ≠ 0) (hpl : b.pin = none ∨ l ≠ 0) (hP : X.prog = b.P) (hw : X.w = b.w) (hc : X.calm = true) (hN : X.N.Nodup) (hi : X.N[i]? = some n1) (hj : X.N[j]? = some n2) (hl : X.N[l]? = some n3)
    (li : Loc X.env.scope n1) (lj : Loc X.env.scope n2) (ll : Loc X.env.scope n3) (ha : ∀ B' : Hp, PA X [e1, e2] (tL (b.wB B') .no fs)) 
    (base : ∀ {tt : TE} {gg : TG}, PE X (.Tuple [.Dict [] [] dp, e1, e2] k2 pt2) tt → PG X (.Tuple [.Name n1 p1, .Name n2 p2, .Name n3 p3] kt pt) gg → PS X (.Assign [.Tuple [.Name n1 p1, .Name n2 p2, .Name n3 p3] kt pt] (.Tuple [.Dict [] [] dp, e1, e2] k2 pt2) pos) (tAsg tt gg))
    (tupT : ∀ {g : TGs}, PGs X [.Name n1 p1, .Name n2 p2, .Name n3 p3] g → PG X (.Tuple [.Name n1 p1, .Name n2 p2, .Name n3 p3] kt pt) (gTup X.K 3 g))
    (hs1 : starEach (.Dict [] [] dp :: [e1, e2]) X.env = (false, eval (.Dict [] [] dp) X.env) :: starEach [e1, e2] X.env := by rfl)
    (f1 : X.fn n1 = true ∨ X.env.scope.names.lookup n1 = some .local := by first | exact .inl rfl | exact .inr rfl | assumption) (f2 : X.fn n2 = true ∨ X.env.scope.names.lookup n2 = some .local := by first | exact .inl rfl | exact .inr rfl | assumption) (f3 : X.fn n3 = true ∨ X.env.scope.names.lookup n3 = some .local := by first | exact .inl rfl | exact .inr rfl | assumption)
    (hK : X.K = b.K) : PS X (.Assign [.Tuple [.Name n1 p1, .Name n2 p2, .Name n3 p3] kt pt] (.Tuple [.Dict [] [] dp, e1, e2] k2 pt2) pos) (tS b x (gPar3K i j l fs)) :=
  (base (pe_tup (pa_cons (px_emptyK (b := b) (x := x) hP hw) (pa_ex ha) hs1)) (tupT (pgs_cons (pg_name hN hi li f1) (pgs_cons (pg_name hN hj lj f2) (pgs_cons (pg_name hN hl ll f3) pgs_nil))))).mono fun E σ H ⟨ρ, a, q⟩ => by
    refine ⟨ρ, a, fun p es ep H1 a1 k1 hB hn hp hd => ⟨upd b.B p (dctO b.P b.w p es ep), ρ, a1.lockB hp (fun _ z => by cases z) hn, ?_⟩⟩
    unfold gPar3K at q
    cases e : fs ρ with
    | exc e' ρ1 => rw [e] at q; exact q.elim
    | stuck => rw [e] at q; exact q.elim
    | ok ds ρ1 =>
      rw [e] at q
      intro vs H2 a2 k2 i2
      split at q
      · rename_i d1 d2 ρ1' e'
        cases e'
        cases i2 with
        | cons j1 i2 =>
          cases i2 with
          | cons j2 i2 =>
            cases i2
            rename_i v1 v2
            refine ⟨by show 3 ≤ sizeLine; decide, fun t ht => ?_⟩
            refine ⟨t, _, rfl, SqT.of upd_same, rfl, _, _, rfl, _, _, rfl, _, _, rfl, rfl, ?_⟩
            have u : Up b.tb H2 (upd H2 t (.tup [.ref p, v1, v2])) := Up.new ht
            have hp2 : H2 p = some (dctO b.P b.w p es ep) := a2.ext.keep p _ upd_same (fun _ z => by cases z)
            have hp3 := u.keep p _ hp2 (fun _ z => by cases z)
            have im0 : b.ImE (upd H2 t (.tup [.ref p, v1, v2])) es [] := by
              have := hd.im
              cases this
              exact .nil
            have A1 := ((a2.unlockB hB).up u).adopt (i := i) (p := p) (y := .k []) hpi a2.notLocked ⟨p, es, ep, rfl, hB, hp3, hd.sm, hd.ok, im0⟩
            exact q _ _ ((A1.set hpj (Im.keep u.toKeep j1)).set hpl (Im.keep u.toKeep j2)) ((k1.trans k2).trans u.toKeep)
      · exact q.elim
/-- a, b = e, []; b owned -/
@[reducible] def gPar2L (i j : Nat) (f : Act D) : GS := gOf f fun d ρ => .nx ((ρ.set i (some (.d d))).set j (some (.l [])))
theorem s_par2L (hpi : b.pin = none ∨ i ≠ 0) (hpj : b.pin = none ∨ j ≠ 0) (hN : X.N.Nodup) (hi : X.N[i]? = some n1) (hj : X.N[j]? = some n2) (hij : i ≠ j)
    (li : Loc X.env.scope n1) (lj : Loc X.env.scope n2) (ha : PE X e1 (tD b x f)) 
    (base : ∀ {tt : TE} {gg : TG}, PE X (.Tuple [e1, .List [] dp] k2 pt2) tt → PG X (.Tuple [.Name n1 p1, .Name n2 p2] kt pt) gg → PS X (.Assign [.Tuple [.Name n1 p1, .Name n2 p2] kt pt] (.Tuple [e1, .List [] dp] k2 pt2) pos) (tAsg tt gg))
    (tupT : ∀ {g : TGs}, PGs X [.Name n1 p1, .Name n2 p2] g → PG X (.Tuple [.Name n1 p1, .Name n2 p2] kt pt) (gTup X.K 2 g))
    (hs1 : starEach (e1 :: [.List [] dp]) X.env = (false, eval e1 X.env) :: starEach [.List [] dp] X.env := by rfl) (hs2 : starEach (.List [] dp :: []) X.env = (false, eval (.List [] dp) X.env) :: starEach [] X.env := by rfl)
    (f1 : X.fn n1 = true ∨ X.env.scope.names.lookup n1 = some .local := by first | exact .inl rfl | exact .inr rfl | assumption) (f2 : X.fn n2 = true ∨ X.env.scope.names.lookup n2 = some .local := by first | exact .inl rfl | exact .inr rfl | assumption) :
    PS X (.Assign [.Tuple [.Name n1 p1, .Name n2 p2] kt pt] (.Tuple [e1, .List [] dp] k2 pt2) pos) (tS b x (gPar2L i j f)) :=
  (base (pe_tup (pa_cons ha (pa_cons (pe_lst pa_nil) pa_nil hs2) hs1)) (tupT (pgs_cons (pg_name hN hi li f1) (pgs_cons (pg_name hN hj lj f2) pgs_nil)))).mono fun E σ H ⟨ρ, a, q⟩ => tD_S a q fun d ρ1 v H1 a1 k1 i1 q1 => by
    refine ⟨Nat.zero_le _, fun p hp => ⟨by show 2 ≤ sizeLine; decide, fun t ht => ?_⟩⟩
    have u1 : Up b.tb H1 (upd H1 p (.lst [])) := Up.new hp
    have u2 : Up b.tb (upd H1 p (.lst [])) (upd (upd H1 p (.lst [])) t (.tup [v, .ref p])) := Up.new ht
    refine ⟨t, _, rfl, SqT.of upd_same, rfl, _, _, rfl, _, _, rfl, rfl, ?_⟩
    have hp3 := u2.keep p _ upd_same (fun _ z => by cases z)
    have A0 := ((a1.up u1).up u2).set (i := i) hpi (Im.keep (u1.toKeep.trans u2.toKeep) i1)
    refine q1 _ _ (A0.adopt (i := j) (p := p) (y := .l []) hpj (fun m y e oy z => ?_) ⟨p, [], rfl, a1.bNone hp, hp3, .nil⟩) (k1.trans (u1.toKeep.trans u2.toKeep))
    have := a1.notNew hp
    by_cases hm : i = m
    · subst hm
      by_cases hl : i < ρ1.length
      · rw [List.getElem?_set_self hl] at e; cases e; exact oy
      · rw [List.getElem?_eq_none (by simp; omega)] at e; cases e
    · rw [List.getElem?_set_ne hm] at e z
      exact this m y e oy z
end
end DL
end
section
set_option Elab.async false
set_option linter.all false
set_option maxRecDepth 100000
set_option maxHeartbeats 2000000
namespace DL
open PySem PySem.Spec PyProof.Rows L2
theorem upDn_length : ∀ (n : Nat) (a c : Int), (upDn a c n).length = n
  | 0, _, _ => rfl
  | n + 1, a, c => by rw [upDn, List.length_cons, upDn_length n]
theorem upDn_get : ∀ (n : Nat) (a c : Int) (i : Nat), i < n → (upDn a c n)[i]? = some (.int (a + (i : Nat) * c))
  | 0, _, _, _, h => by omega
  | n + 1, a, c, 0, _ => by simp [upDn]
  | n + 1, a, c, i + 1, h => by
    rw [upDn, List.getElem?_cons_succ, upDn_get n (a + c) c i (by omega)]
    have : a + c + (i : Int) * c = a + ((i + 1 : Nat) : Int) * c := by
      rw [Int.natCast_add, Int.add_mul]
      omega
    rw [this]
def opRange3 : List D → Option (List D)
  | [.int i, .int j, .int c] => if c = -1 ∧ -1000000 ≤ i ∧ i ≤ 1000000 ∧ -1000000 ≤ j ∧ j ≤ 1000000 then some (upDn i c (i - j).toNat) else none
  | _ => none
section
variable {X : Cx} {b : BC} {x : XC} {e e2 e3 tg : Expr} {pos p : Pos} {fs : Act (List D)}
theorem walk_dn {lo c : Int} {n : Nat} {H : Hp} : WalkD b (Itc lo c n) (upDn lo c n) H := by
  refine ⟨fun _ => True, _, by rw [upDn_length]; exact walk_rangeC, trivial, fun _ _ _ _ => trivial, fun i H v H2 hi _ y => ?_⟩
  obtain ⟨rfl, rfl⟩ := y
  rw [upDn_length] at hi
  exact ⟨Up.refl _ _, _, upDn_get n lo c i hi, .int _⟩
theorem i_range3 (hg : Gl X "range") (hm : X.mg "range" = none) (ha : PA X [e, e2, e3] (tL b x fs)) (hs : starEach [e, e2, e3] X.env = (false, eval e X.env) :: starEach [e2, e3] X.env := by rfl) (hpl : (backTo pos (starEach [e2, e3] X.env)).any (·.1) = false := by rfl) : PI X tg (.Call (.Name "range" p) [e, e2, e3] [] pos) (wD b x (aIN opRange3 fs)) :=
  (pi_range3 hg hm ha hs hpl).mono fun σ H R ⟨ρ, a, q⟩ => tL_step (Keep.refl H) a q fun ds ρ1 vs H1 a1 k1 i1 q1 => by
    obtain ⟨xs, e, q2⟩ := lift_go q1
    unfold opRange3 at e
    split at e
    · rename_i i j c
      split at e
      · rename_i hj
        obtain ⟨rfl, h1, h2, h3, h4⟩ := hj
        cases e
        cases i1 with
        | cons i1 ir =>
          cases ir with
          | cons i2 ir =>
            cases ir with
            | cons i3 ir =>
              cases ir
              cases i1; cases i2; cases i3
              exact ⟨i, j, -1, _, rfl, RgC.neg (by omega) (by omega) (by omega) (by omega), q2 _ H1 a1 k1 walk_dn⟩
      · cases e
    · cases e
end
end DL
end
section
set_option Elab.async false
set_option linter.all false
set_option maxRecDepth 100000
set_option maxHeartbeats 2000000
namespace DL
open PySem PySem.Spec PyProof.Rows L2
theorem room65 {A : Around} {k : Nat} (hr : Room k A) : A.units + 65 < cLine := by
  have := hr.un
  omega
section
variable {X : Cx} {b : BC} {x : XC} {e a c : Expr} {f g h : Act D} {pos : Pos}
def cmpB (p : Int → Int → Bool) : D → D → Option Bool
  | .int i, .int j => some (p i j)
  | _, _ => none
/-- a < b < c as a test, ints -/
@[reducible] def cChain (p q : Int → Int → Bool) (f g h : Act D) : Act Bool := f.bind fun x => g.bind fun y => (lift (cmpB p x y)).bind fun k => if k = true then h.bind fun w => lift (cmpB q y w) else fun ρ => .ok false ρ
theorem cmpB_of {H : Hp} {v u : V} {d1 d2 : D} {p : Int → Int → Bool} {k : Bool} (i1 : b.Im H v d1) (i2 : b.Im H u d2) (e : cmpB p d1 d2 = some k) : ∃ i j, v = .int i ∧ u = .int j ∧ k = p i j := by
  unfold cmpB at e
  split at e
  · cases e; cases i1; cases i2; exact ⟨_, _, rfl, rfl, rfl⟩
  · cases e
theorem pt_chainI {o o' : CmpOp} {p q : Int → Int → Bool} (ho : OpR X (compareOp o) (rI0 fun i j => .bl (p i j))) (ho' : OpR X (compareOp o') (rI0 fun i j => .bl (q i j))) (h1 : PE X e (tD b x f)) (h2 : PE X a (tD b x g)) (h3 : PE X c (tD b x h))
    (hm : lastMarks [o, o'] [a, c] = false := by with_unfolding_all rfl) : PT X (.Compare e [o, o'] [a, c] pos) (tT b x (cChain p q f g h)) :=
  (pt_chain ho ho' h1 h2 h3 hm).mono fun σ H Q ⟨ρ, a0, q0⟩ => tD_step (Keep.refl H) a0 q0 fun d1 ρ1 v1 H1 a1 k1 i1 q1 => tD_step k1 a1 q1 fun d2 ρ2 v2 H2 a2 k2 i2 q2 => by
    obtain ⟨k, ek, q3⟩ := lift_go q2.bind
    obtain ⟨i, j, rfl, rfl, rfl⟩ := cmpB_of (Im.keep k2 i1) i2 ek
    refine ⟨i, j, rfl, rfl, p i j, rfl, ?_⟩
    cases hk : p i j with
    | true =>
      rw [hk] at q3
      refine tD_step (x := x) (k1.trans k2) a2 q3 fun d3 ρ3 v3 H4 a3 k3 i3 q5 => ?_
      obtain ⟨k2', e5, q6⟩ := lift_go q5
      obtain ⟨i', j', e1, rfl, rfl⟩ := cmpB_of (Im.keep k3 i2) i3 e5
      cases e1
      exact ⟨_, _, rfl, rfl, _, rfl, q6 H4 a3 ((k1.trans k2).trans k3)⟩
    | false =>
      rw [hk] at q3
      exact ⟨false, rfl, q3 H2 a2 (k1.trans k2)⟩
end
end DL
end
section
set_option Elab.async false
set_option linter.all false
set_option maxRecDepth 100000
set_option maxHeartbeats 2000000
namespace DL
open PySem PySem.Spec PyProof.Rows L2
/-- a reading that is stuck: nothing is promised -/
theorem ok_stuck {P : Program} {w : World} {K : PySem.W.Frag} {mg : Str → Option Value} {base : Heap} {tb : List Addr} {k : Nat} {f : Addr} {fd : FuncData} {ps : List Str} {only : Bool} :
    FnOk P w K mg base (L2.CX P w) k f fd ps (spF P w K mg tb ps.length only fun _ => .stuck) where
  len := fun vs H Q E ⟨cs, e, _⟩ => e
  run := fun A outer s H args us vs Q E hr he hb hv ⟨cs, _, _, _, _, q⟩ => q.elim
end DL
end
section
set_option Elab.async false
set_option linter.all false
set_option maxRecDepth 100000
set_option maxHeartbeats 2000000
namespace DL
open PySem PySem.Spec PyProof.Rows L2
section
variable {X : Cx} {b : BC} {x : XC} {e e2 : Expr} {pos p pos2 p2 : Pos} {f g : Act D}
def dRg2 : D → D → Option (List D)
  | .int i, .int j => if 0 ≤ i ∧ i ≤ 1000000 ∧ 0 ≤ j ∧ j ≤ 1000000 then some (upTo i (j - i).toNat) else none
  | _, _ => none
@[reducible] def fRg2 (f g : Act D) : Act (List D) := f.bind fun d1 => g.bind fun d2 => lift (dRg2 d1 d2)
theorem px_listRg2F (hc : X.calm = true) (hg : Gl X "list") (hm : X.mg "list" = none) (hg2 : Gl X "range") (hm2 : X.mg "range" = none) (h1 : PE X e (tD b x f)) (h2 : PE X e2 (tD b x g)) (na : starEach [e, e2] X.env = (false, eval e X.env) :: starEach [e2] X.env := by rfl) (na1 : starEach [e2] X.env = (false, eval e2 X.env) :: starEach [] X.env := by rfl)
    (na2 : starEach [.Call (.Name "range" p2) [e, e2] [] pos2] X.env = (false, eval (.Call (.Name "range" p2) [e, e2] [] pos2) X.env) :: starEach [] X.env := by rfl) :
    PE X (.Call (.Name "list" p) [.Call (.Name "range" p2) [e, e2] [] pos2] [] pos) (tF b x (fRg2 f g)) :=
  (pe_listRg hc hg hm (prg_2 hg2 hm2 h1 h2 na na1 (by rw [na1]; rfl)) na2).mono fun σ H Q ⟨ρ, a, q⟩ => tD_step (Keep.refl H) a q fun d1 ρ1 v1 H1 a1 k1 i1 q1 => tD_step k1 a1 q1 fun d2 ρ2 v2 H2 a2 k2 i2 q2 => by
    obtain ⟨xs, e, q3⟩ := lift_go q2
    unfold dRg2 at e
    split at e
    · split at e
      · rename_i i j hn
        cases e; cases i1; cases i2
        refine ⟨_, _, rfl, rfl, RgOk.of_le (by omega) (by omega) (by omega) (by omega), fun p hp => ?_⟩
        have u : Up b.tb H2 (upd H2 p (.lst (rgV i j))) := Up.new hp
        exact q3 p _ _ (a2.up u) ((k1.trans k2).trans u.toKeep) (a2.bNone hp) (a2.notNew hp) upd_same (ImL.keep u.toKeep (rgV_im _ i _ rfl))
      · cases e
    · cases e
end
end DL
end
section
set_option Elab.async false
set_option linter.all false
set_option maxRecDepth 100000
set_option maxHeartbeats 2000000
namespace DL
open PySem PySem.Spec PyProof.Rows L2
section
variable {X : Cx} {b : BC} {x : XC} {o e1 : Expr} {pos : Pos} {g : Act D}
/-- k in d, k not in d as a test, d owned -/
@[reducible] def cInKO (neg : Bool) (i : Nat) (g : Act D) : Act Bool := g.bind fun k ρ => match getK i ρ with
    | some kvs => lift (k.kk.map fun n => if neg = true then !(kget kvs n).isSome else (kget kvs n).isSome) ρ
    | none => .stuck
theorem pt_inKO (i : Nat) {op : CmpOp} {neg : Bool} (hop : OpR X (compareOp op) (rInK b neg)) (ho : PE X o (tVar i)) (h1 : PE X e1 (tD b x g)) (hm : behindInMarks op o = false := by with_unfolding_all rfl) : PT X (.Compare e1 [op] [o] pos) (tT b x (cInKO neg i g)) :=
  (pt_cmpR hop h1 ho hm).mono fun σ H Q ⟨ρ, a0, q0⟩ => tD_step (Keep.refl H) a0 q0 fun d2 ρ2 v2 H2 a2 k2 i2 q2 => by
    cases e1 : getK i ρ2 with
    | none => simp only [e1] at q2; exact q2.elim
    | some kvs =>
      simp only [e1] at q2
      obtain ⟨d, e, q4⟩ := lift_go q2
      obtain ⟨n, hn, rfl⟩ := Option.map_eq_some_iff.mp e
      obtain ⟨v', hv', cv'⟩ := a2.cells i _ (getK_some e1)
      obtain ⟨a', es', ep', rfl, hB', hl', hd'⟩ := cell_at cv'
      obtain ⟨ka, rfl⟩ := kk_ref i2 hn
      exact ⟨_, hv', a', es', ep', kvs, ka, _, n, rfl, rfl, hd', i2, hn, _, rfl, q4 H2 a2 k2⟩
end
end DL
end
section
set_option Elab.async false
set_option linter.all false
set_option maxRecDepth 100000
set_option maxHeartbeats 2000000
namespace DL
open PySem PySem.Spec PyProof.Rows L2
theorem gfree {names gnames : List (Str × NameKind)} {n : Nat} (h : (gnames.all fun y => y.2 != .free || names.lookup y.1 == some .cell) = true) : ∀ y ∈ gnames, y.2 = .free → ∃ c, (cellsFrom n names []).lookup y.1 = some c := fun y hy e => by
  have := List.all_eq_true.mp h y hy
  rw [e] at this
  have h2 : names.lookup y.1 = some .cell := by simpa using this
  exact Option.isSome_iff_exists.mp (PySem.W.cellsFrom_some _ _ _ (.inl h2))
/-- times(wheels, step, number) == one: slots of wheels and step -/
def timesD (ws ss : List Int) (n : Int) : List Int := List.zipWith (fun a w => (a * n).fmod w) ss ws
def tTim (jw js : Nat) : DEnv → D → D → Option Bool := fun ρ d1 d2 => match ρ[jw]?, ρ[js]?, d2 with
  | some (some (.d (.tup ws))), some (some (.d (.tup ss))), .int n => match D.ints ws, D.ints ss with
    | some w, some s => if (w.all fun i => i != 0 && decide (i.natAbs < 1000000)) = true ∧ (s.all fun i => decide (i.natAbs < 1000000)) = true ∧ n.natAbs < 1000000 ∧ d1.sh = true ∧ w.length ≤ 1000 ∧ s.length ≤ 1000
      then some (PyData.eqv (.tuple ((timesD w s n).map .int)) d1.py) else none
    | _, _ => none
  | _, _, _ => none
/-- what is asked of times, called in a generator expression: TO BE PROVED (then a theorem el_times : TimE K mg from times's FunC) -/
def TimE (K : PySem.W.Frag) (mg : Str → Option Value) : Prop := ∀ (X : Cx) (b : BC) (k jw js : Nat) (scope : Scope) (c1 c2 c3 c4 c5 c6 c7 : Pos), X.K = K → X.mg = mg → Room k X.A → X.K = b.K → GenS2 X.env scope "one" "number" → scope.names.lookup ("times" : Str) = some .globalImplicit →
  X.N[jw]? = some "wheels" → X.N[js]? = some "step" → X.env.scope.names.lookup ("wheels" : Str) = some .cell → X.env.scope.names.lookup ("step" : Str) = some .cell → scope.names.lookup ("wheels" : Str) = some .free → scope.names.lookup ("step" : Str) = some .free →
  Elt2 X b scope "one" "number" (.Compare (.Call (.Name "times" c1) [.Name "wheels" c2, .Name "step" c3, .Name "number" c4] [] c5) [.Eq] [.Name "one" c6] c7) (tTim jw js)
end DL
end
section
set_option Elab.async false
set_option linter.all false
set_option maxRecDepth 100000
set_option maxHeartbeats 2000000
namespace DL
open PySem PySem.Spec PyProof.Rows L2
/-! ### from the head's facts to what the rules ask -/
theorem fun_of {K : PySem.W.Frag} {x qual : Str} {st : Stmt} {f : Addr} {fd : FuncData} (F : FunD K x qual (defArgs st) (defBody st) (defScope st) [] [] f fd) : Fun K x qual st f fd := by
  obtain ⟨oc, od, dV, kV, doc, pm, an, cdv, ct, osl, h1, h2, h3, h4, h5⟩ := F.ex
  have e : dV = .none := by
    rcases h4 with ⟨_, e⟩ | ⟨n, _⟩
    · exact e
    · exact absurd rfl n
  subst e
  exact ⟨⟨oc, od, kV, doc, pm, an, cdv, ct, osl, h1, h2, h3⟩, F.kp⟩
theorem funC_of {K : PySem.W.Frag} {x qual : Str} {st : Stmt} {p : Str × Option Str} {fd : FuncData} (F : FunD K x qual (defArgs st) (defBody st) (defScope st) [] [] (He.fAd K p) fd) : FunC K x qual st (He.fAd K p) fd (He.codeOf K p) := by
  obtain ⟨oc, od, dV, kV, doc, pm, an, cdv, ct, osl, h1, h2, h3, h4, h5⟩ := F.ex
  have e : dV = .none := by
    rcases h4 with ⟨_, e⟩ | ⟨n, _⟩
    · exact e
    · exact absurd rfl n
  subst e
  obtain ⟨c, rfl⟩ := He.codeIn_ref h3
  have ec : He.codeOf K p = c := He.codeOf_eq h2 (by rw [h1])
  rw [ec]
  exact ⟨⟨oc, od, kV, doc, pm, an, ct, osl, h1, h2, h3⟩, F.kp⟩
theorem tabG_of {base : Heap} {mg : Str → Option Value} {c P : Addr} (t : LamX.TabB base mg c P) : GxR.TabB base mg c P := ⟨t.code, t.bm, t.gP⟩
/-- a def known by its name may be called -/
theorem cal_of {P : Program} {w : World} {K : PySem.W.Frag} {mg : Str → Option Value} {base : Heap} {tb : List Addr} {k n : Nat} {x qual : Str} {st : Stmt} {f : Addr} {fd : FuncData} {ps : List Str} {only : Bool} {R : List Cell → RS D} (F : Fun K x qual st f fd) (G : FnOk P w K mg base (L2.CX P w) k f fd ps (spF P w K mg tb n only R)) (hm : mg x = some (.ref f))
    (hb : ∀ (kV doc pm : Value) (an : Option Addr) (cdv ct : Value) (us : List Value), us.length = ps.length → bindArgs (PySem.W.fnOf x qual (defArgs st) (defBody st) (defScope st) .none kV doc pm an cdv ct) ⟨us, []⟩ = pure (ps.zip us)) : Cal P w K mg base tb k x n only R :=
  ⟨⟨f, fd, ps, G, hm, F.kp, F.binds hb⟩⟩
/-- the law's promise: an owned script, answered by True -/
theorem imL_int {P : Program} {w : World} {K : PySem.W.Frag} (H : Hp) (ns : List Int) : ImL P w K H (ns.map V.int) (ns.map D.int) := by
  induction ns with
  | nil => exact .nil
  | cons n ns ih => exact .cons (.int n) ih
theorem law_sp {P : Program} {w : World} {K : PySem.W.Frag} {mg : Str → Option Value} {tb : List Addr} {F : List Cell → RS D} {H : Hp} {a : Addr} {ns : List Int} (ht : ∀ p ∈ tb, GxR.TabG H p) (hS : SqL K H a (ns.map V.int)) (hK : ∀ o, K.lookup a = some o → o.cls = .type "list" → False)
    (h1 : ∃ ρ, F [.l (ns.map .int)] = .ok (.bl true) ρ) (h2 : ∃ ρ, F [.d (.lst (ns.map .int))] = .ok (.bl true) ρ) : spF P w K mg tb 1 false F [.ref a] H (fun v _ => v = .bl true) fun _ _ _ => False := by
  have fz : (∃ o, H a = some (.frz o (.lst (ns.map V.int)))) → spF P w K mg tb 1 false F [.ref a] H (fun v _ => v = .bl true) fun _ _ _ => False := fun hz => by
    obtain ⟨ρ, e⟩ := h2
    refine ⟨[.d (.lst (ns.map .int))], rfl, fun z => (by cases z), fun i c hc hw => ?_, ?_, ?_⟩
    · match i, hc with
      | 0, _ => rfl
    · exact { ext := Up.refl _ _, tab := ht, pin := fun v z => (by cases z), len := rfl, cells := fun i x hx => (by
          match i, hx with
          | 0, hx => cases hx; exact ⟨_, rfl, .lst hz (imL_int _ _)⟩), apart := fun i j x y v n hx hy ox oy _ _ => (by
          match i, hx with
          | 0, hx => cases hx; exact ox.elim) }
    · rw [e]
      intro v H' _ im
      cases im
      · rfl
  rcases hS with (hl | hz) | ⟨o, its, n, ho, hc, _⟩
  · obtain ⟨ρ, e⟩ := h1
    refine ⟨[.l (ns.map .int)], rfl, fun z => (by cases z), fun i c hc hw => ?_, ?_, ?_⟩
    · match i, hc with
      | 0, _ => rfl
    · refine { ext := ⟨fun c o e n => ?_, fun c ps e => ?_, fun _ => ht⟩, tab := ht, pin := fun v z => (by cases z; rfl), len := rfl, cells := fun i x hx => ?_, apart := fun i j x y v n hx hy ox oy _ _ => ?_ }
      · have e : hide (some a) H c = some o := e
        by_cases hc : c = a
        · rw [hc, hide_self] at e; cases e
        · rw [hide_ne hc] at e; exact e
      · have e : hide (some a) H c = some (.tbl ps) := e
        by_cases hc : c = a
        · rw [hc, hide_self] at e; cases e
        · rw [hide_ne hc] at e; exact ⟨ps, e⟩
      · match i, hx with
        | 0, hx => cases hx; exact ⟨.ref a, rfl, a, ns.map V.int, rfl, by show hide (some a) H a = none; exact hide_self, hl, imL_int _ _⟩
      · match i, j, hx, hy, n with
        | 0, 0, _, _, n => exact n rfl
    · rw [e]
      intro v H' _ im
      cases im
      · rfl
  · exact fz hz
  · exact (hK o ho hc).elim
end DL
end
section
set_option Elab.async false
set_option linter.all false
set_option maxRecDepth 100000
set_option maxHeartbeats 2000000
namespace DL
open PySem PySem.Spec PyProof.Rows L2
/-! ### a law of written rows: each if by one closed question -/
def okIs (r : RS D) (d : D) : Bool := match r with
  | .ok x _ => D.beq x d
  | _ => false
theorem okIs_of {r : RS D} {d : D} (h : okIs r d = true) : ∃ ρ, r = .ok d ρ := by
  unfold okIs at h
  split at h
  · rename_i x ρ
    exact ⟨ρ, by rw [D.eq_of h]⟩
  · cases h
def Is {α : Type} (f : Act α) (ρ : DEnv) (d : α) : Prop := f ρ = .ok d ρ
section
variable {ρ : DEnv}
theorem is_C {d : D} : Is (aC d) ρ d := rfl
theorem is_V {i : Nat} {d : D} (h : ρ[i]? = some (some (.d d)) := by rfl) : Is (aV i) ρ d := by unfold Is aV; rw [h]
theorem is_nil : Is aNil ρ [] := rfl
theorem is_bind {α β : Type} {f : Act α} {k : α → Act β} {x : α} {y : β} (h : Is f ρ x) (g : Is (k x) ρ y) : Is (f.bind k) ρ y := by
  unfold Is at h g ⊢
  unfold Act.bind
  rw [h]
  exact g
theorem is_cons {f : Act D} {g : Act (List D)} {x : D} {xs : List D} (h : Is f ρ x) (h2 : Is g ρ xs) : Is (aCons f g) ρ (x :: xs) := is_bind h (is_bind h2 rfl)
theorem is_lift {α : Type} {o : Option α} {d : α} (h : o = some d) : Is (lift o) ρ d := by rw [h]; rfl
theorem is_N {g : Act (List D)} {xs : List D} (h : Is g ρ xs) (hl : xs.length ≤ 16000000 := by decide) : Is (aN dTup g) ρ (.tup xs) := is_bind h (is_lift (by unfold dTup; rw [if_pos hl]))
theorem is_2 {op : D → D → Option D} {f g : Act D} {x y d : D} (h : Is f ρ x) (h2 : Is g ρ y) (e : op x y = some d) : Is (a2 op f g) ρ d := is_bind h (is_bind h2 (is_lift e))
theorem is_call {n : Nat} {F : List Cell → RS D} {fs : Act (List D)} {ds : List D} {d : D} (h : Is fs ρ ds) (hn : ds.length = n) (e : okIs (F (ds.map .d)) d = true) : Is (aCall n F fs) ρ d := is_bind h (by
  obtain ⟨ρ', e⟩ := okIs_of e
  simp only [Is, hn, e, if_true])
theorem is_cB {f : Act D} {k : Bool} (h : Is f ρ (.bl k)) : Is (cB f) ρ k := is_bind h (is_lift rfl)
theorem is_or {c d : Act Bool} {k : Bool} (h : Is c ρ false) (h2 : Is d ρ k) : Is (cOr c d) ρ k := is_bind h h2
/-- f != g: the same datum -/
theorem is_same {f g : Act D} {d : D} (h2 : Is g ρ d) (h : Is f ρ d) (e : dEq true d d = some (.bl false) := by rfl) : Is (a2 (dEq true) f g) ρ (.bl false) := is_2 h h2 e
theorem is_isB {f : Act D} {k : Bool} (h : Is f ρ (.bl k)) : Is (a2 (dIsB true) f (aC (.bl k))) ρ (.bl false) := is_2 h is_C (by cases k <;> rfl)
theorem if_no {c : Act Bool} {g h : GS} {o : Out} (hc : Is c ρ false) (e : h ρ = o) : gSeq (gIf c g gNext) h ρ = o := by
  unfold gSeq gIf gOf
  unfold Is at hc
  rw [hc]
  exact e
theorem set_is {i : Nat} {f : Act D} {h : GS} {d : D} {o : Out} (hf : Is f ρ d) (e : h (ρ.set i (some (.d d))) = o) : gSeq (gSet i f) h ρ = o := by
  unfold gSeq gSet gOf
  unfold Is at hf
  rw [hf]
  exact e
end
end DL
end
section
set_option Elab.async false
set_option linter.all false
set_option maxRecDepth 100000
set_option maxHeartbeats 2000000
namespace DL
open PySem PySem.Spec PyProof.Rows L2
/-! ### times, called within a generator expression -/
abbrev timCsc : Scope := { kind := .function, names := [((".0" : Str), .local), ("a", .local), ("wheel", .local), ("number", .free)], isGenerator := false, isCoroutine := false, more := [] }
theorem tm_off {b N C D : Nat} (hb : b < N ∨ b = C) (hC : N + 5 ≤ C) (hD : N + 5 ≤ D) (h : D ≠ C) : ¬ (b = D ∨ b = N + 4 ∨ b = N + 3 ∨ b = N ∨ b = N + 1) := by omega
theorem tm_ne {b N C : Nat} (hb : b < N + 5) (hC : N + 5 ≤ C) : b ≠ C := by omega
theorem tm_lt {b N l1 l2 : Nat} (h1 : l1 < N) (h2 : l2 < N) (hb : b = N + 4 ∨ b = N + 2 ∨ b = N + 3 ∨ b = N ∨ b = l1 ∨ b = N + 1 ∨ b = l2) : b < N + 5 := by omega
theorem timesD_get {ws ss : List Int} {n a w : Int} {i : Nat} (h1 : ss[i]? = some a) (h2 : ws[i]? = some w) : (timesD ws ss n)[i]? = some ((a * n).fmod w) := by
  unfold timesD
  rw [List.getElem?_zipWith, h1, h2]
theorem int_at {ss : List Int} {i : Nat} {v : V} (h : (ss.map V.int)[i]? = some v) : ∃ a, ss[i]? = some a ∧ v = .int a := by
  rw [List.getElem?_map] at h
  cases e : ss[i]? with
  | none => rw [e] at h; cases h
  | some a => rw [e] at h; cases h; exact ⟨a, rfl, rfl⟩
section
variable {prog : Program} {w : World} {A : Around} {env : Env} {s : Shared} {E : Value → Shared → Prop}
theorem comp_times {iter : Expr} {cl : List (Str × Addr)} {a1 a2 c : Addr} {i1 i2 : List Value} {ss ws : List Int} {n : Int} {t : Tok} {x1 : Nat} {p1 p2 p3 p4 p5 p6 p7 p8 pos : Pos} {Q : Value → Shared → Prop} (hh : A.handled = none)
    (hclos : closureFor timCsc env = pure cl) (hek : env.scope.kind = .function) (hkn : env.kindOf "number" = some .cell) (hcl : cl.lookup ("number" : Str) = some c) (hc : s.heap.IsCell c (some (.int n t)))
    (h1 : srOf true s.heap a1 i1.toArray) (h2 : srOf true s.heap a2 i2.toArray) (v1 : Vals (ss.map .int) i1) (v2 : Vals (ws.map .int) i2)
    (nz : ∀ x ∈ ws, x ≠ 0) (hn : n.natAbs < 1000000) (hsz : i1.toArray.size ≤ sizeLine)
    (hz : ∀ {R : Value → Shared → Prop}, wpAny (model prog w) A (call (.type "zip") [.ref a1, .ref a2]) R E s → wpAny (model prog w) A (eval iter env) R E s)
    (hs : ∀ x, foldedSetIterable iter env x = pure x)
    (h : ∀ D h' tk (vs : List Value), s.heap.objs.size ≤ D → h'.PlainList D vs.toArray → Vals ((timesD ws ss n).map .int) vs → (∀ b o, s.heap.get? b = some o → h'.get? b = some o) → Q (.ref D) { s with heap := h', toks := tk }) :
    wpAny (model prog w) A (eval (.ListComp (.BinOp (.BinOp (.Name "a" p1) .Mult (.Name "number" p2) p3) .Mod (.Name "wheel" p4) p5) [⟨.Tuple [.Name "a" p6, .Name "wheel" p7] x1 p8, iter, [], 0⟩] timCsc pos) env) Q E s := by
  have hlt1 : a1 < s.heap.objs.size := by obtain ⟨o, ho, _⟩ := h1; exact Heap.lt_size ho
  have hlt2 : a2 < s.heap.objs.size := by obtain ⟨o, ho, _⟩ := h2; exact Heap.lt_size ho
  have hltc := hc.lt
  have hlen : (timesD ws ss n).length = min i1.toArray.size i2.toArray.size := by
    have e1 := v1.length
    have e2 := v2.length
    rw [List.length_map] at e1 e2
    unfold timesD
    rw [List.length_zipWith, List.size_toArray, List.size_toArray, ← e1, ← e2]
  refine ListComp_goes hclos (by decide +kernel) rfl (by decide +kernel) (hz ?_) hs
  refine zip_begins2 (begins_src true a1 i1.toArray) (begins_src true a2 i2.toArray) h1 h2 fun h₁ hZ hTI hTO hi1 hi2 hz5 hk₁ => ?_
  refine wpAny_pyIter_zip hZ ?_
  refine ⟨_, _, _, _, _, _, rfl, Goes.zip2 (zip_sep2 (N := s.heap.objs.size) (fp1 := [a1]) (fp2 := [a2]) (fun b hb => by rw [List.mem_singleton.mp hb]; exact hlt1) (fun b hb => by rw [List.mem_singleton.mp hb]; exact hlt2))
      (draws_src (A := A.in1) hh true _ a1 (Nat.ne_of_lt hlt1) i1.toArray) (draws_src (A := A.in1) hh true _ a2 (Nat.ne_of_lt (Nat.lt_succ_of_lt hlt2)) i2.toArray), Nat.le_trans (Nat.min_le_left ..) hsz,
    ⟨hZ, hTI, ⟨_, _, hTO⟩, ⟨itOf.new hi1, (begins_src true a1 i1.toArray).keeps _ _ h1 hk₁⟩, ⟨itOf.new hi2, (begins_src true a2 i2.toArray).keeps _ _ h2 hk₁⟩⟩, ?_, fun D C s₃ hB => ?_⟩
  · intro b hb
    show b < h₁.objs.size
    rw [hz5]
    exact tm_lt hlt1 hlt2 (by simpa using hb)
  · obtain ⟨⟨h₃, tk₃, rfl⟩, old, nD, nC, hDC, hnm⟩ := hB
    have nC' : (s.heap.objs.size + 5 : Nat) ≤ C := by rw [← hz5]; exact nC
    have nD' : (s.heap.objs.size + 5 : Nat) ≤ D := by rw [← hz5]; exact nD
    have hDC' : (D : Nat) ≠ C := hDC
    have kinds : ∀ y, timCsc.names.lookup y = some .local → (compEnvC timCsc cl C env).kindOf y = some .local := fun y hy => lookup_relabel_local hy
    have kN : (compEnvC timCsc cl C env).kindOf "number" = some .cell := by
      show (relabel timCsc env).names.lookup ("number" : Str) = some NameKind.cell
      unfold relabel
      have q1 : (env.scope.kind == ScopeKind.function) = true := by rw [hek]; rfl
      have q2 : (env.kindOf "number" == some NameKind.cell) = true := by rw [hkn]; rfl
      simp only [timCsc, List.map_cons, List.map_nil]
      have r1 : ((NameKind.local == NameKind.free) = false) := rfl
      have r2 : ((NameKind.free == NameKind.free) = true) := rfl
      simp only [r1, r2, q1, q2, Bool.false_and, Bool.and_self, Bool.true_and, if_true, Bool.false_eq_true, if_false]
      rfl
    have hp : ((compEnvC timCsc cl C env).scope.kind == .class || ((compEnvC timCsc cl C env).scope.kind == .module && (compEnvC timCsc cl C env).locals != (compEnvC timCsc cl C env).globals)) = false := rfl
    refine ⟨fun i vs s₁ => ∃ h' tk m, s₁ = { s with heap := h', toks := tk } ∧ h'.Ns C m ∧ Vals (((timesD ws ss n).take i).map .int) vs ∧ ∀ b o, s.heap.get? b = some o → h'.get? b = some o, ⟨h₃, tk₃, _, rfl, hnm, by rw [List.take_zero]; exact .nil, fun b o e => old b o (hk₁ b o e)⟩, ?_, ?_, ?_⟩
    · rintro i vs s₁ h' tk ⟨h₄, tk₄, m, rfl, n₄, e₄, k₄⟩ hk' _
      have off : ∀ b : Addr, (b < s.heap.objs.size ∨ b = C) → b ∉ D :: [s.heap.objs.size + 4, s.heap.objs.size + 3, s.heap.objs.size, s.heap.objs.size + 1] := fun b hb hm => tm_off hb nC' nD' hDC' (by simpa using hm)
      exact ⟨h', tk, m, rfl, n₄.at' fun o e => hk' _ o (off _ (.inr rfl)) e, e₄, fun b o e => hk' b o (off _ (.inl (Heap.lt_size e))) (k₄ b o e)⟩
    · rintro i v vs s₁ hi ⟨T, x, y, rfl, hx, hy, hT⟩ st ⟨h₄, tk₄, m, rfl, n₄, e₄, k₄⟩ hpl
      obtain ⟨vx, gx, rx⟩ := ar_get v1 (show i1.toArray[i]? = some x from hx)
      obtain ⟨vy, gy, ry⟩ := ar_get v2 (show i2.toArray[i]? = some y from hy)
      obtain ⟨ai, ga, rfl⟩ := int_at gx
      obtain ⟨wi, gw, rfl⟩ := int_at gy
      obtain ⟨tx, rfl⟩ := rx
      obtain ⟨ty, rfl⟩ := ry
      refine wpAny_assign_Tuple hh hT rfl rfl fun h₅ hs₅ => ?_
      have up₅ : ∀ b o, h₄.get? b = some o → h₅.get? b = some o := fun b o e => hs₅ b o (Nat.ne_of_lt (Heap.lt_size e)) e
      show wpAny _ _ (assignInOrder [assign (.Name "a" p6) _, assign (.Name "wheel" p7) _] [.int ai tx, .int wi ty]) _ _ _
      refine wpAny_assignInOrder_more (wpAny_assign_Name (wpAny_storeName_local (kinds _ (by decide +kernel)) (n₄.at' fun o e => up₅ _ o e) (fun h₆ n₆ s₆ => ?_) hp))
      refine wpAny_assignInOrder_more (wpAny_assign_Name (wpAny_storeName_local (kinds _ (by decide +kernel)) n₆ (fun h₇ n₇ s₇ => wpAny_assignInOrder_none ?_) hp))
      refine wpAny_tests_nil ?_
      have up₇ : ∀ b o, b ≠ C → h₄.get? b = some o → h₇.get? b = some o := fun b o hb e => s₇.extBut _ _ hb (s₆.extBut _ _ hb (up₅ b o e))
      have offC : ∀ b : Addr, b < s.heap.objs.size + 5 → b ≠ C := fun b hb => tm_ne hb nC'
      have up8 : ∀ b o, s.heap.get? b = some o → h₇.get? b = some o := fun b o e => up₇ b o (offC b (Nat.lt_add_right 5 (Heap.lt_size e))) (k₄ b o e)
      have hc7 : h₇.IsCell c (some (.int n t)) := hc.keeps up8
      show wpAny _ _ _ _ _ _
      refine wpAny_BinOp (wpAny_BinOp (wpAny_Name (wpAny_loadName_local rfl (kinds _ (by decide +kernel)) n₇ (v := .int ai tx) (by rfl) ?_) (by decide +kernel)))
      refine wpAny_Name (wpAny_loadName_cell rfl kN hcl hc7 ?_) (by decide +kernel)
      refine P.mul_int ?_ (IntMulOk.of_right (intBits_le_64 (by omega) (by omega)))
      refine wpAny_Name (wpAny_loadName_local rfl (kinds _ (by decide +kernel)) n₇ (v := .int wi ty) (by rfl) ?_) (by decide +kernel)
      refine mod_int (nz _ (List.mem_of_getElem? gw)) ?_
      refine ⟨⟨h₇, _, _, rfl, n₇, ?_, up8⟩, ?_, hpl.at fun o e => up₇ _ o hDC e⟩
      · rw [List.take_add_one, timesD_get ga gw, List.map_append]
        exact e₄.append (.cons ⟨_, rfl⟩ .nil)
      · obtain ⟨z1, z2, ⟨a1, a2, z3⟩, ⟨z4, z5⟩, ⟨z6, z7⟩⟩ := st
        exact ⟨up₇ _ _ (offC _ (Nat.add_lt_add_left (by decide) _)) z1, up₇ _ _ (offC _ (Nat.add_lt_add_left (by decide) _)) z2, ⟨a1, a2, up₇ _ _ (offC _ (Nat.add_lt_add_left (by decide) _)) z3⟩,
          ⟨z4.at fun o e => up₇ _ o (offC _ (Nat.lt_add_of_pos_right (by decide))) e, Heap.IsTuple.at z5 fun o e => up₇ _ o (offC _ (Nat.lt_add_right 5 hlt1)) e⟩, ⟨z6.at fun o e => up₇ _ o (offC _ (Nat.add_lt_add_left (by decide) _)) e, Heap.IsTuple.at z7 fun o e => up₇ _ o (offC _ (Nat.lt_add_right 5 hlt2)) e⟩⟩
    · rintro vs s₁ ⟨h₄, tk₄, m, rfl, n₄, e₄, k₄⟩ hpl
      have nD'' : s.heap.objs.size ≤ D := Nat.le_trans (Nat.le_add_right _ 5) nD'
      rw [← hlen, List.take_length] at e₄
      exact ⟨m, n₄, fun h' hs' => h D h' tk₄ vs nD'' (hpl.extBut hs'.extBut hDC) e₄ fun b o e => hs'.extBut b o (tm_ne (Nat.lt_add_right 5 (Heap.lt_size e)) nC') (k₄ b o e)⟩
end
end DL
end
section
set_option Elab.async false
set_option linter.all false
set_option maxRecDepth 100000
set_option maxHeartbeats 2000000
namespace DL
open PySem PySem.Spec PyProof.Rows L2
abbrev timBody (x1 : Nat) (q1 q2 q3 q4 q5 q6 q7 q8 q9 r1 r2 r3 r4 r5 r6 r7 : Pos) : List Stmt := [.Return (some (.Call (.Name "tuple" q1) [.ListComp (.BinOp (.BinOp (.Name "a" q2) .Mult (.Name "number" q3) q4) .Mod (.Name "wheel" q5) q6) [⟨.Tuple [.Name "a" q7, .Name "wheel" q8] x1 q9, .Call (.Name "zip" r1) [.Name "step" r2, .Name "wheels" r3] [] r4, [], 0⟩] timCsc r5] [] r6)) r7]
structure TimSc (sc : Scope) : Prop where
  kind : sc.kind = .function
  co : sc.isCoroutine = false
  gen : sc.isGenerator = false
  names : sc.names = [(("wheels" : Str), .local), ("step", .local), ("number", .cell), ("tuple", .globalImplicit), ("zip", .globalImplicit)]
section
variable {P : Program} {w : World} {K : PySem.W.Frag} {mg : Str → Option Value} {base : Heap} {tb : List Addr} {A : Around} {E : Value → Shared → Prop} {env : Env} {m : Str → Option Value} {s : Shared} {Q : Value → Shared → Prop} {x : Str} {p p1 p2 p3 p4 : Pos}
/-- times(wheels, step, number), called within a quiet place -/
theorem q_times {st : Stmt} {f : Addr} {fd : FuncData} {a1 a2 : Addr} {i1 i2 : List Value} {ss ws : List Int} {n : Int} {t : Tok} {x1 : Nat} {q1 q2 q3 q4 q5 q6 q7 q8 q9 r1 r2 r3 r4 r5 r6 r7 : Pos} (F : Fun K "times" "times" st f fd) (S : TimSc (defScope st)) (hb : defBody st = timBody x1 q1 q2 q3 q4 q5 q6 q7 q8 q9 r1 r2 r3 r4 r5 r6 r7)
    (hbd : Binds K fd ["wheels", "step", "number"] []) (ht : mg "tuple" = none) (hz : mg "zip" = none) (hh : A.handled = none) (hdp : A.depth < recursionLimit) (md : Mod K mg s.heap)
    (h1 : srOf true s.heap a1 i1.toArray) (h2 : srOf true s.heap a2 i2.toArray) (v1 : Vals (ss.map .int) i1) (v2 : Vals (ws.map .int) i2) (nz : ∀ x ∈ ws, x ≠ 0) (hn : n.natAbs < 1000000) (hsz : i1.toArray.size ≤ sizeLine) :
    wpAny (model P w) A (call (.ref f) [.ref a2, .ref a1, .int n t]) (fun y s' => ∃ D vs, y = .ref D ∧ s'.heap.IsTuple D (List.toArray vs) ∧ Vals ((timesD ws ss n).map .int) vs ∧ Keeps s s') E s := by
  obtain ⟨oc, od, kV, doc, pm, an, cdv, ct, osl, rfl, lk, hcd⟩ := F.ex
  refine wpAny_call ?_
  have hl : ([Value.ref a2, .ref a1, .int n t] ++ ([] : List Value)).length = (["wheels", "step", "number"] : List Str).length := rfl
  refine codeAny_call_function hdp (md.kin _ _ lk) rfl S.co S.gen rfl (PySem.W.codeRec_of md.kin hcd) (hbd s [.ref a2, .ref a1, .int n t] md.kin hl _ _ _ _ ?_)
  refine wpAny_newFunctionEnv_cells S.kind (fun y hy => ?_) (fun env he s' X => ?_)
  · have : y = (("wheels" : Str), .ref a2) ∨ y = (("step" : Str), Value.ref a1) ∨ y = (("number" : Str), Value.int n t) := by simpa using hy
    show (defScope st).names.lookup y.1 = _ ∨ ((defScope st).names.lookup y.1 = _ ∧ ((cellsFrom _ (defScope st).names []).lookup y.1).isSome = true)
    rw [S.names]
    rcases this with rfl | rfl | rfl
    · exact .inl rfl
    · exact .inl rfl
    · exact .inr ⟨rfl, rfl⟩
  · subst he
    have kp := X.toInCall.keep
    have md' : Mod K mg s'.heap := md_keeps md kp
    refine ⟨md'.nolimit, codeAny_func ?_⟩
    show wpAny _ _ (execs (defBody st) _) _ _ _
    rw [hb]
    have kpX : Keeps s s' := by
      obtain ⟨h', tk, e, k⟩ := X.toInCall.done
      exact ⟨h', tk, e, k⟩
    revert X
    generalize henv : newEnv _ _ _ _ _ _ _ _ _ = env'
    intro X
    have ek : env'.scope = defScope st := by rw [← henv]; rfl
    have eg : env'.globals = mainGlobals := by rw [← henv]; rfl
    have eb : env'.builtins = builtinsNs := by rw [← henv]; rfl
    have ecl : env'.cells = [(("number" : Str), s.heap.objs.size + 1)] := by
      rw [← henv]
      show cellsFrom _ (defScope st).names [] = _
      rw [S.names]
      rfl
    have ks : ∀ y, env'.kindOf y = (defScope st).names.lookup y := fun y => by show env'.scope.names.lookup y = _; rw [ek]
    have kw : env'.kindOf "wheels" = some .local := by rw [ks, S.names]; rfl
    have kst : env'.kindOf "step" = some .local := by rw [ks, S.names]; rfl
    have kn : env'.kindOf "number" = some .cell := by rw [ks, S.names]; rfl
    have kt : env'.kindOf "tuple" = some .globalImplicit := by rw [ks, S.names]; rfl
    have kz : env'.kindOf "zip" = some .globalImplicit := by rw [ks, S.names]; rfl
    have q : Qx K mg env' _ s' := ⟨by rw [ek]; exact S.kind, eg, eb, md', X.toInCall.ns⟩
    have mw : bindL env'.kindOf ((["wheels", "step", "number"] : List Str).zip [Value.ref a2, .ref a1, .int n t]) (fun _ => none) "wheels" = some (.ref a2) := by
      show bindL env'.kindOf [(("wheels" : Str), Value.ref a2), ("step", .ref a1), ("number", .int n t)] (fun _ => none) "wheels" = _
      unfold bindL bindL bindL bindL
      rw [if_pos kw, if_pos kst, if_neg (by rw [kn]; decide)]
      rfl
    have mst : bindL env'.kindOf ((["wheels", "step", "number"] : List Str).zip [Value.ref a2, .ref a1, .int n t]) (fun _ => none) "step" = some (.ref a1) := by
      show bindL env'.kindOf [(("wheels" : Str), Value.ref a2), ("step", .ref a1), ("number", .int n t)] (fun _ => none) "step" = _
      unfold bindL bindL bindL bindL
      rw [if_pos kw, if_pos kst, if_neg (by rw [kn]; decide)]
      rfl
    have mn : bindC env'.kindOf ((["wheels", "step", "number"] : List Str).zip [Value.ref a2, .ref a1, .int n t]) (fun _ => none) "number" = some (.int n t) := by
      show bindC env'.kindOf [(("wheels" : Str), Value.ref a2), ("step", .ref a1), ("number", .int n t)] (fun _ => none) "number" = _
      unfold bindC bindC bindC bindC
      rw [if_pos kw, if_pos kst, if_neg (by rw [kn]; decide)]
      rfl
    have hc : s'.heap.IsCell (s.heap.objs.size + 1) (some (.int n t)) := by
      have := X.cell "number" (s.heap.objs.size + 1) (by rw [ecl]; rfl)
      exact (show bindC env'.kindOf ((["wheels", "step", "number"] : List Str).zip [Value.ref a2, .ref a1, .int n t]) (fun _ => none) "number" = some (.int n t) from mn) ▸ this
    have h1' : srOf true s'.heap a1 i1.toArray := Heap.IsTuple.at h1 fun o e => kp a1 o e
    have h2' : srOf true s'.heap a2 i2.toArray := Heap.IsTuple.at h2 fun o e => kp a2 o e
    refine wpAny_execs_cons (wpAny_Return_some ?_)
    refine wpAny_Call_Name_kw (q.blt kt ht boot_tuple (PyProof.Rows.callWith_type1 (Calls.spliced_cons ?_) (by rfl) (by rfl)))
    have fr : ∀ y ∈ timCsc.names, y.2 = .free → ∃ c, env'.cells.lookup y.1 = some c := fun y hy e => by
      have : y = ((".0" : Str), NameKind.local) ∨ y = (("a" : Str), NameKind.local) ∨ y = (("wheel" : Str), NameKind.local) ∨ y = (("number" : Str), NameKind.free) := by simpa using hy
      rcases this with rfl | rfl | rfl | rfl
      · cases e
      · cases e
      · cases e
      · exact ⟨_, by rw [ecl]; rfl⟩
    have hcl : (cloFrom env'.cells timCsc.names []).lookup ("number" : Str) = some (s.heap.objs.size + 1) := by rw [ecl]; rfl
    have hhd : ∀ e' : Env, (A.deeper e').handled = none := fun e' => hh
    refine comp_times (ss := ss) (ws := ws) (n := n) (t := t) (hhd _) (closure_ok fr) (by rw [ek]; exact S.kind) kn hcl hc h1' h2' v1 v2 nz hn hsz (fun {R} h => ?_) (by intro _; rfl) ?_
    · refine wpAny_Call_Name_kw (q.blt kz hz boot_zip (PyProof.Rows.callWith_type1 ?_ (by rfl) (by rfl)))
      show wpAny _ _ (spliced ((false, eval (.Name "step" r2) env') :: (false, eval (.Name "wheels" r3) env') :: [])) _ _ s'
      refine Calls.spliced_cons (q.loc kst mst ?_)
      refine Calls.spliced_cons (q.loc kw mw ?_)
      exact Calls.spliced_nil h
    · intro D h' tk vs hD hpl hv hk
      refine Calls.spliced_nil ?_
      have sz : vs.toArray.size ≤ sizeLine := by
        have e := hv.length
        rw [List.length_map] at e
        have e1 := v1.length
        rw [List.length_map] at e1
        rw [List.size_toArray] at hsz ⊢
        rw [← e]
        refine Nat.le_trans ?_ hsz
        unfold timesD
        rw [List.length_zipWith, ← e1]
        exact Nat.min_le_left _ _
      refine call_tuple_list hpl.isList (fun h2 hk2 => ?_) sz
      refine ⟨_, vs, rfl, ⟨_, Heap.get?_push_size _ rfl, rfl, _, rfl⟩, hv, kp_trans kpX ⟨_, _, rfl, fun c o e => Heap.get?_push_of_some _ (hk2 c o (hk c o e))⟩⟩
end
end DL
end
section
set_option Elab.async false
set_option linter.all false
set_option maxRecDepth 100000
set_option maxHeartbeats 2000000
namespace DL
open PySem PySem.Spec PyProof.Rows L2
mutual
/-- data that read off objects other than a table's -/
theorem reads_but {h h' : Heap} {a : Addr} {o0 : Obj} (k : ∀ b o, b ≠ a → h.get? b = some o → h'.get? b = some o) (ha : h.get? a = some o0) (hc : o0.cls = .none) : ∀ {v : Value} {d : PyData} {as : List Addr}, Reads h v d as → Reads h' v d as
  | _, _, _, .none => .none
  | _, _, _, .bool b => .bool b
  | _, _, _, .int i t => .int i t
  | _, _, _, .str x t => .str x t
  | _, _, _, .list h1 h2 h3 h4 => .list (k _ _ (fun e => by subst e; rw [ha] at h1; cases h1; rw [hc] at h2; cases h2) h1) h2 h3 (readsAll_but k ha hc h4)
  | _, _, _, .tuple h1 h2 h3 h4 => .tuple (k _ _ (fun e => by subst e; rw [ha] at h1; cases h1; rw [hc] at h2; cases h2) h1) h2 h3 (readsAll_but k ha hc h4)
  | _, _, _, .dict h1 h2 h3 h4 h5 => .dict (k _ _ (fun e => by subst e; rw [ha] at h1; cases h1; rw [hc] at h2; cases h2) h1) h2 h3 (readsAll_but k ha hc h4) (readsAll_but k ha hc h5)
theorem readsAll_but {h h' : Heap} {a : Addr} {o0 : Obj} (k : ∀ b o, b ≠ a → h.get? b = some o → h'.get? b = some o) (ha : h.get? a = some o0) (hc : o0.cls = .none) : ∀ {vs : List Value} {ds : List PyData} {as : List Addr}, ReadsAll h vs ds as → ReadsAll h' vs ds as
  | _, _, _, .nil => .nil
  | _, _, _, .cons h1 h2 => .cons (reads_but k ha hc h1) (readsAll_but k ha hc h2)
end
theorem readsAll_of_ints {h : Heap} : ∀ {ns : List Int} {vs : List Value}, Vals (ns.map V.int) vs → ReadsAll h vs (ns.map .int) []
  | [], _, r => by cases r; exact .nil
  | n :: ns, _, r => by
    cases r with
    | cons r rr =>
      obtain ⟨t, rfl⟩ := r
      exact .cons (.int n t) (readsAll_of_ints rr)
theorem ints_can : ∀ ns : List Int, PyData.canLayAll0 (ns.map .int) = true
  | [] => rfl
  | n :: ns => by
    rw [List.map_cons, PyData.canLayAll0, ints_can ns]
    rfl
theorem ints_depth : ∀ ns : List Int, PyData.depthAll (ns.map .int) = 0
  | [] => rfl
  | n :: ns => by
    rw [List.map_cons, PyData.depthAll, ints_depth ns]
    rfl
theorem shaped_ints (ns : List Int) : SeqAt.shaped (.tuple (ns.map .int)) = true := by
  unfold SeqAt.shaped
  rw [PyData.canLay0, ints_can, PyData.depth, ints_depth]
  rfl
/-- times's facts -/
structure TimF (K : PySem.W.Frag) (mg : Str → Option Value) (f : Addr) : Prop where
  ex : ∃ (st : Stmt) (fd : FuncData) (x1 : Nat) (q1 q2 q3 q4 q5 q6 q7 q8 q9 r1 r2 r3 r4 r5 r6 r7 : Pos), Fun K "times" "times" st f fd ∧ TimSc (defScope st) ∧ defBody st = timBody x1 q1 q2 q3 q4 q5 q6 q7 q8 q9 r1 r2 r3 r4 r5 r6 r7 ∧ Binds K fd ["wheels", "step", "number"] []
  tx : mg "tuple" = none
  zx : mg "zip" = none
  mg : mg "times" = some (.ref f)
  kp : PySem.W.keepIn K (.ref f) = true
section
variable {X : Cx} {b : BC} {pins : List (Addr × Obj)} {σ : L2.St} {ρ : DEnv} {H : Hp} {s s1 : Shared} {Pt C : Addr} {A' : Around} {m : Str → Option Value}
theorem Ec.pt (e : Ec X b pins σ ρ H s1 Pt A' C s m) : ∃ ps, s1.heap.get? Pt = some { cls := .none, data := .fields ps } := let ⟨ps, hp⟩ := e.hP; ⟨ps, e.I.hok Pt _ hp⟩
theorem Ec.tup (e : Ec X b pins σ ρ H s1 Pt A' C s m) (hK : X.K = b.K) {v : V} {xs : List D} (i : b.Im H v (.tup xs)) : ∃ a vs its, v = .ref a ∧ b.ImL H vs xs ∧ Vals vs its ∧ srOf true s.heap a its.toArray := by
  cases i with
  | tup h r =>
    obtain ⟨its, rv, sr, _⟩ := src_of e.I (k := true) (by rw [hK]; exact h)
    obtain ⟨ps, hp⟩ := e.pt
    obtain ⟨o, ho, hr⟩ := sr
    exact ⟨_, _, its, rfl, r, rv, o, e.kp _ o (srOf_ne (k := true) ⟨o, ho, hr⟩ hp) ho, hr⟩
theorem Ec.reads (e : Ec X b pins σ ρ H s1 Pt A' C s m) (hK : X.K = b.K) {v : V} {u : Value} {d : D} (i : b.Im H v d) (r : RelV v u) (ok : d.okp = true) : ∃ as, Reads s.heap u d.py as := by
  obtain ⟨as, q⟩ := Dp.reads e.I d.py v u (by rw [hK]; exact dp_of i ok) r
  obtain ⟨ps, hp⟩ := e.pt
  exact ⟨as, reads_but e.kp hp rfl q⟩
theorem el_times {K : PySem.W.Frag} {mg : Str → Option Value} {f : Addr} (N : TimF K mg f) : TimE K mg := by
  intro X b k jw js scope c1 c2 c3 c4 c5 c6 c7 hK' hm' hr hK S hn hNw hNs hcw hcs hfw hfs pins σ ρ H s1 Pt A' C code s m E' u1 u2 v1 v2 d1 d2 k' e h1 h2 r1 r2 i1 i2 ht
  subst hK' hm'
  unfold tTim at ht
  split at ht
  · rename_i ws' ss' n hρw hρs
    split at ht
    · rename_i ws ss hw hs
      split at ht
      · rename_i hh
        obtain ⟨hw1, hs1, hn1, hsh, hwl, hsl⟩ := hh
        cases ht
        obtain ⟨ok1, sh1⟩ := sh_of hsh
        have q := e.qx (code := code) S.kind
        obtain ⟨st, fd, x1, q1, q2, q3, q4, q5, q6, q7, q8, q9, z1, z2, z3, z4, z5, z6, z7, F, Sc, hb', hbd⟩ := N.ex
        cases i2
        obtain ⟨t2, rfl⟩ := r2
        obtain ⟨uw, vw, rw', iw, capw⟩ := e.cap (E := E') (code := code) S.kind hNw hρw hcw hfw S.free (by decide +kernel) (by decide +kernel)
        obtain ⟨us, vs, rs, is, caps⟩ := e.cap (E := E') (code := code) S.kind hNs hρs hcs hfs S.free (by decide +kernel) (by decide +kernel)
        obtain ⟨aw, lw, itw, rfl, imw, vlw, srw⟩ := e.tup hK iw
        obtain ⟨as, ls, its, rfl, ims, vls, srs⟩ := e.tup hK is
        cases rw'
        cases rs
        obtain ⟨rfl, rfl⟩ := ints_of imw hw
        obtain ⟨rfl, rfl⟩ := ints_of ims hs
        have hd := hr.dp
        have hd2 := e.dp
        refine wpAny_Compare1 ?_ (by with_unfolding_all rfl)
        refine wpAny_Call_Name_kw (q.glob hn N.mg ?_)
        refine PySem.W.callWith_K (h₀ := X.base) e.I.ok.mod.kin N.kp ?_ (by rfl) (by rfl)
        refine Calls.spliced_cons (capw _ _ _ (kp_refl s) ?_)
        refine Calls.spliced_cons (caps _ _ _ (kp_refl s) ?_)
        refine Calls.spliced_cons (q.loc S.lb h2 ?_ (by decide +kernel))
        refine Calls.spliced_nil ⟨q.md.kin, ?_⟩
        refine wpAny_mono (q_times (A := A') (E := E') (ss := ss) (ws := ws) (n := n) F Sc hb' hbd N.tx N.zx e.hh (by omega) q.md srs srw vls vlw (fun x hx => ?_) hn1 ?_) (fun y s' h => ?_) fun _ _ e => e
        · have := List.all_eq_true.mp hw1 x hx
          simp only [Bool.and_eq_true, bne_iff_ne, ne_eq] at this
          exact this.1
        · have e1 := vls.length
          rw [List.length_map] at e1
          rw [List.size_toArray, ← e1]
          exact Nat.le_trans hsl (by rw [sizeLine_eq]; omega)
        · obtain ⟨D, ys, rfl, ⟨o, ho, hoc, no, hod⟩, hys, kp⟩ := h
          have q' := q.keeps kp
          refine q'.loc S.la h1 ?_ (by decide +kernel)
          obtain ⟨bs, rd⟩ := e.reads hK i1 r1 ok1
          have rd' := Reads.keeps (kp_get kp) rd
          have rt : Reads s'.heap (.ref D) (.tuple ((timesD ws ss n).map .int)) [] := .tuple ho hoc hod (readsAll_of_ints hys)
          have hu := hr.un
          have hu2 := e.un
          exact SeqAt.compareEq_shaped rt rd' (shaped_ints _) sh1 (by omega) ⟨rfl, kp⟩
      · cases ht
    · cases ht
  · cases ht
end
end DL
end
section
set_option Elab.async false
set_option linter.all false
set_option maxRecDepth 100000
set_option maxHeartbeats 2000000
namespace DL
open PySem PySem.Spec PyProof.Rows L2
/-! ### how a reading is worked out, step by step -/
/-- f answers d, and the slots become ρ' -/
def To {α : Type} (f : Act α) (ρ : DEnv) (d : α) (ρ' : DEnv) : Prop := f ρ = .ok d ρ'
theorem Is.to {α : Type} {f : Act α} {ρ : DEnv} {d : α} (h : Is f ρ d) : To f ρ d ρ := h
section
variable {ρ ρ1 ρ2 ρ3 : DEnv} {α β : Type}
theorem to_bind {f : Act α} {k : α → Act β} {x : α} {y : β} (h : To f ρ x ρ1) (g : To (k x) ρ1 y ρ2) : To (f.bind k) ρ y ρ2 := by
  unfold To at h g ⊢
  unfold Act.bind
  rw [h]
  exact g
theorem to_cons {f : Act D} {g : Act (List D)} {x : D} {xs : List D} (h : To f ρ x ρ1) (h2 : To g ρ1 xs ρ2) : To (aCons f g) ρ (x :: xs) ρ2 := to_bind h (to_bind h2 rfl)
theorem to_lift {o : Option α} {d : α} (h : o = some d) : To (lift o) ρ d ρ := by rw [h]; rfl
theorem to_1 {op : D → Option D} {f : Act D} {x d : D} (h : To f ρ x ρ1) (e : op x = some d) : To (a1 op f) ρ d ρ1 := to_bind h (to_lift e)
theorem to_2 {op : D → D → Option D} {f g : Act D} {x y d : D} (h : To f ρ x ρ1) (h2 : To g ρ1 y ρ2) (e : op x y = some d) : To (a2 op f g) ρ d ρ2 := to_bind h (to_bind h2 (to_lift e))
theorem to_N {op : List D → Option D} {g : Act (List D)} {xs : List D} {d : D} (h : To g ρ xs ρ1) (e : op xs = some d) : To (aN op g) ρ d ρ1 := to_bind h (to_lift e)
theorem to_cB {f : Act D} {k : Bool} (h : To f ρ (.bl k) ρ1) : To (cB f) ρ k ρ1 := to_bind h (to_lift rfl)
theorem to_not {c : Act Bool} {k : Bool} (h : To c ρ k ρ1) : To (cNot c) ρ (!k) ρ1 := to_bind h rfl
theorem to_or_t {c d : Act Bool} (h : To c ρ true ρ1) : To (cOr c d) ρ true ρ1 := to_bind h rfl
theorem to_or_f {c d : Act Bool} {k : Bool} (h : To c ρ false ρ1) (h2 : To d ρ1 k ρ2) : To (cOr c d) ρ k ρ2 := to_bind h h2
theorem to_and_f {c d : Act Bool} (h : To c ρ false ρ1) : To (cAnd c d) ρ false ρ1 := to_bind h rfl
theorem to_and_t {c d : Act Bool} {k : Bool} (h : To c ρ true ρ1) (h2 : To d ρ1 k ρ2) : To (cAnd c d) ρ k ρ2 := to_bind h h2
theorem to_if_t {c : Act Bool} {f g : Act D} {d : D} (h : To c ρ true ρ1) (h2 : To f ρ1 d ρ2) : To (cI c f g) ρ d ρ2 := to_bind h h2
theorem to_if_f {c : Act Bool} {f g : Act D} {d : D} (h : To c ρ false ρ1) (h2 : To g ρ1 d ρ2) : To (cI c f g) ρ d ρ2 := to_bind h h2
theorem to_C {d : D} : To (aC d) ρ d ρ := rfl
theorem to_V {i : Nat} {d : D} (h : ρ[i]? = some (some (.d d))) : To (aV i) ρ d ρ := is_V h
theorem to_nil : To aNil ρ [] ρ := rfl
theorem to_ixO {i : Nat} {f : Act D} {xs : List D} {k : Int} {d : D} (h0 : getL i ρ = some xs) (h : To f ρ (.int k) ρ) (e : atI xs k = some d) : To (aIxO i f) ρ d ρ := by
  unfold To at h ⊢
  unfold aIxO
  rw [h0]
  show (f.bind _) ρ = _
  unfold Act.bind
  rw [h]
  show (match getL i ρ, D.int k with | some xs, .int k => lift (atI xs k) ρ | _, _ => .stuck) = _
  rw [h0]
  show lift (atI xs k) ρ = _
  rw [e]
  rfl
theorem to_call {n : Nat} {F : List Cell → RS D} {fs : Act (List D)} {ds : List D} {d : D} {ρ' : DEnv} (h : To fs ρ ds ρ1) (hn : ds.length = n) (e : F (ds.map .d) = .ok d ρ') : To (aCall n F fs) ρ d ρ1 := to_bind h (by
  unfold To
  simp only [if_pos hn, e])
theorem to_callO {n i : Nat} {F : List Cell → RS D} {fs : Act (List D)} {ds xs ys : List D} {d : D} {ρ' : DEnv} (h0 : getL i ρ = some xs) (h : To fs ρ ds ρ) (hn : ds.length + 1 = n) (e : F (.l xs :: ds.map .d) = .ok d ρ') (h1 : ρ'[0]? = some (some (.l ys))) : To (aCallO n F i fs) ρ d (ρ.set i (some (.l ys))) := by
  unfold To at h ⊢
  unfold aCallO
  have h2 := getL_some h0
  rw [h2]
  show (fs.bind _) ρ = _
  unfold Act.bind
  rw [h]
  show (match ρ[i]? with | some (some (.l xs)) => _ | _ => _) = _
  rw [h2]
  show (if ds.length + 1 = n then _ else _) = _
  rw [if_pos hn, e]
  show (match ρ'[0]? with | some (some (.l ys)) => _ | _ => _) = _
  rw [h1]
/-! statements -/
variable {g h k : GS} {o : Out} {c : Act Bool} {f : Act D} {i : Nat} {d : D}
theorem st_last (e : gSeq g gNext ρ = o) : g ρ = o := by
  unfold gSeq at e
  cases q : g ρ with
  | nx ρ1 => rw [q] at e; exact e
  | _ => rw [q] at e; exact e
theorem st_assoc {g1 g2 g3 : GS} (e : gSeq g1 (gSeq g2 g3) ρ = o) : gSeq (gSeq g1 g2) g3 ρ = o := by
  unfold gSeq at e ⊢
  cases q : g1 ρ with
  | nx ρ1 => rw [q] at e; exact e
  | _ => rw [q] at e; exact e
theorem st_next (e : h ρ = o) : gSeq gNext h ρ = o := e
theorem st_end : gNext ρ = .nx ρ := rfl
theorem st_set (hf : To f ρ d ρ1) (e : h (ρ1.set i (some (.d d))) = o) : gSeq (gSet i f) h ρ = o := by
  unfold To at hf
  unfold gSeq gSet gOf
  rw [hf]
  exact e
theorem st_drop (hf : To f ρ d ρ1) (e : h ρ1 = o) : gSeq (gDrop f) h ρ = o := by
  unfold To at hf
  unfold gSeq gDrop gOf
  rw [hf]
  exact e
theorem st_ret (hf : To f ρ d ρ1) : gSeq (gRet f) h ρ = .rt d ρ1 := by
  unfold To at hf
  unfold gSeq gRet gOf
  rw [hf]
theorem st_if_t (hc : To c ρ true ρ1) (e : gSeq g h ρ1 = o) : gSeq (gIf c g k) h ρ = o := by
  unfold To at hc
  unfold gSeq gIf gOf at *
  rw [hc]
  exact e
theorem st_if_f (hc : To c ρ false ρ1) (e : gSeq k h ρ1 = o) : gSeq (gIf c g k) h ρ = o := by
  unfold To at hc
  unfold gSeq gIf gOf at *
  rw [hc]
  exact e
theorem st_setI {hh : Act D} {xs xs2 : List D} {z : Int} {j : Nat} (hf : To f ρ d ρ1) (h0 : getL i ρ1 = some xs) (hk : To hh ρ1 (.int z) ρ2) (h2 : getL i ρ2 = some xs2) (hj : ixN xs2.length z = some j) (e : h (ρ2.set i (some (.l (xs2.set j d)))) = o) : gSeq (gSetI i f hh) h ρ = o := by
  unfold To at hf hk
  unfold gSeq gSetI gOf
  rw [hf]
  dsimp only
  rw [h0]
  dsimp only
  rw [hk]
  dsimp only
  rw [h2]
  dsimp only
  rw [hj]
  exact e
theorem fn_ok {n : Nat} {g : GS} {cs : List Cell} {ρ0 : DEnv} {d : D} (h0 : cs.map some ++ List.replicate (n - cs.length) none = ρ) (e : g ρ = .rt d ρ0) : fnF n g cs = .ok d ρ0 := by
  unfold fnF
  rw [h0, e]
end
end DL
end
section
set_option Elab.async false
set_option linter.all false
set_option maxRecDepth 100000
set_option maxHeartbeats 2000000
namespace DL
open PySem PySem.Spec PyProof.Rows L2
/-! ### the laws' draws: every law's _law_taken has this reading -/
def gTaken : GS := (gSeq (gIf (cB (a2 (dCmpI (fun i j => decide (j < i))) (aIxO 0 (aC (.int 3))) (aC (.int 0)))) (gSeq (gSet 2 (a2 dMod (aN dInt (aCons (aIxO 0 (aC (.int 3))) aNil)) (aV 1)))
    (gSeq (gSetI 0 (a2 dFdiv (aIxO 0 (aC (.int 3))) (aV 1)) (aC (.int 3)))
    (gRet (aV 2)))) gNext)
    (gSeq (gSetI 0 (a2 dAdd (aIxO 0 (aC (.int 1))) (aC (.int 1))) (aC (.int 1)))
    (gSeq (gIf (cB (a2 (dCmpI (fun i j => decide (j < i))) (aIxO 0 (aC (.int 1))) (aN dLen (aCons (aIxO 0 (aC (.int 0))) aNil)))) (gSeq (gSetI 0 (a2 dMod (aN dInt (aCons (a2 dAdd (a2 dMul (aIxO 0 (aC (.int 2))) (aC (.int 48271))) (aC (.int 11))) aNil)) (aC (.int 2147483647))) (aC (.int 2)))
    (gRet (a2 dMod (aN dInt (aCons (a2 dFdiv (aIxO 0 (aC (.int 2))) (aC (.int 7))) aNil)) (aV 1)))) gNext)
    (gSeq (gSet 3 (a2 dIx (aIxO 0 (aC (.int 0))) (a2 dSub (aIxO 0 (aC (.int 1))) (aC (.int 1)))))
    (gSeq (gSetI 0 (a2 dMod (aN dInt (aCons (a2 dAdd (a2 dAdd (a2 dMul (aIxO 0 (aC (.int 2))) (aC (.int 48271))) (aV 3)) (aC (.int 11))) aNil)) (aC (.int 2147483647))) (aC (.int 2)))
    (gSeq (gIf (cB (a2 (dCmpI (fun i j => decide (j ≤ i))) (aV 3) (a2 dPow (aC (.int 10)) (aC (.int 18))))) (gSetI 0 (a2 dFdiv (aV 3) (aV 1)) (aC (.int 3))) gNext)
    (gRet (a2 dMod (aN dInt (aCons (aV 3) aNil)) (aV 1)))))))))
def fTaken : List Cell → RS D := fnF 4 gTaken
/-- a law's row of draws -/
structure Rw where
  xs : List Int
  p : Nat
  sd : Int
  rs : Int
def Rw.cell (r : Rw) : Cell := .l [.lst (r.xs.map .int), .int r.p, .int r.sd, .int r.rs]
def Rw.ok (r : Rw) : Prop := -1 < r.sd ∧ r.sd < 2147483647
def Rw.draw (r : Rw) (m : Int) : Int := if 0 < r.rs then r.rs.fmod m else match r.xs[r.p]? with
  | some c => c.fmod m
  | none => ((((r.sd * 48271 + 11).fmod 2147483647)).fdiv 7).fmod m
def Rw.next (r : Rw) (m : Int) : Rw := if 0 < r.rs then { r with rs := r.rs.fdiv m } else match r.xs[r.p]? with
  | some c => ⟨r.xs, r.p + 1, (r.sd * 48271 + c + 11).fmod 2147483647, if 10 ^ 18 ≤ c then c.fdiv m else r.rs⟩
  | none => ⟨r.xs, r.p + 1, (r.sd * 48271 + 11).fmod 2147483647, r.rs⟩
theorem Rw.draw_range (r : Rw) {m : Int} (h : 0 < m) : 0 ≤ r.draw m ∧ r.draw m < m := by
  have key : ∀ a : Int, 0 ≤ a.fmod m ∧ a.fmod m < m := fun a => ⟨Int.fmod_nonneg_of_pos a h, Int.fmod_lt_of_pos a h⟩
  unfold Rw.draw
  split
  · exact key _
  · split <;> exact key _
theorem Rw.next_ok (r : Rw) (m : Int) (h : r.ok) : (r.next m).ok := by
  have key : ∀ a : Int, -1 < a.fmod 2147483647 ∧ a.fmod 2147483647 < 2147483647 := fun a => by
    have h1 := Int.fmod_nonneg_of_pos a (show (0 : Int) < 2147483647 by decide)
    exact ⟨by omega, Int.fmod_lt_of_pos a (by decide)⟩
  unfold Rw.next
  split
  · exact h
  · split <;> exact key _
theorem taken_eq (r : Rw) (m : Int) (hr : r.ok) (h0 : 0 < m) (h1 : m < 1000000000) : ∃ ρ, fTaken [r.cell, .d (.int m)] = .ok (.int (r.draw m)) (some (r.next m).cell :: ρ) := by
  obtain ⟨xs, p, sd, rs⟩ := r
  obtain ⟨s1, s2⟩ := hr
  dsimp only at s1 s2
  have hm : ∀ a : Int, dMod (.int a) (.int m) = some (.int (a.fmod m)) := fun a => by unfold dMod; exact if_pos (by omega)
  have hf : ∀ a : Int, dFdiv (.int a) (.int m) = some (.int (a.fdiv m)) := fun a => by unfold dFdiv; exact if_pos ⟨by omega, by omega⟩
  have hmu : dMul (.int sd) (.int 48271) = some (.int (sd * 48271)) := by unfold dMul; exact if_pos ⟨by omega, by omega⟩
  have hm2 : ∀ a : Int, dMod (.int a) (.int 2147483647) = some (.int (a.fmod 2147483647)) := fun a => rfl
  have hf2 : ∀ a : Int, dFdiv (.int a) (.int 7) = some (.int (a.fdiv 7)) := fun a => rfl
  have hpw : dPow (.int 10) (.int 18) = some (.int (10 ^ 18)) := rfl
  unfold fTaken gTaken Rw.cell Rw.draw Rw.next
  by_cases c1 : 0 < rs
  · simp only [if_pos c1]
    refine ⟨[some (.d (.int m)), some (.d (.int (rs.fmod m))), none], fn_ok (ρ := [some (.l [.lst (xs.map .int), .int p, .int sd, .int rs]), some (.d (.int m)), none, none]) rfl ?_⟩
    refine st_if_t (to_cB (to_2 (x := .int rs) (y := .int 0) (to_ixO rfl to_C rfl) to_C (by show some (D.bl (decide (0 < rs))) = _; rw [decide_eq_true c1]))) ?_
    refine st_assoc (st_set (to_2 (to_N (to_cons (to_ixO (d := .int rs) rfl to_C rfl) to_nil) rfl) (to_V (d := .int m) rfl) (hm rs)) ?_)
    refine st_assoc (st_setI (to_2 (to_ixO (d := .int rs) rfl to_C rfl) (to_V (d := .int m) rfl) (hf rs)) rfl to_C rfl (j := 3) rfl ?_)
    exact st_ret (to_V rfl)
  · simp only [if_neg c1]
    refine ⟨?ρ, fn_ok (ρ := [some (.l [.lst (xs.map .int), .int p, .int sd, .int rs]), some (.d (.int m)), none, none]) rfl ?_⟩
    case ρ => exact match xs[p]? with
      | some c => [some (.d (.int m)), none, some (.d (.int c))]
      | none => [some (.d (.int m)), none, none]
    refine st_if_f (to_cB (to_2 (x := .int rs) (y := .int 0) (to_ixO rfl to_C rfl) to_C (by show some (D.bl (decide (0 < rs))) = _; rw [decide_eq_false c1]))) (st_next ?_)
    refine st_setI (to_2 (to_ixO (d := .int p) rfl to_C rfl) to_C (d := .int (p + 1)) rfl) rfl to_C rfl (j := 1) rfl ?_
    have hl : dLen [.lst (xs.map .int)] = some (.int xs.length) := by show some (D.int ((xs.map D.int).length : Nat)) = _; rw [List.length_map]
    by_cases c2 : p < xs.length
    · have e : xs[p]? = some xs[p] := List.getElem?_eq_getElem c2
      rw [e]
      dsimp only
      refine st_if_f (to_cB (to_2 (x := .int (p + 1)) (y := .int xs.length) (to_ixO rfl to_C rfl) (to_N (to_cons (to_ixO (d := .lst (xs.map .int)) rfl to_C rfl) to_nil) hl) (by show some (D.bl (decide (((xs.length : Nat) : Int) < (p : Int) + 1))) = _; rw [decide_eq_false (by omega)]))) (st_next ?_)
      refine st_set (d := .int xs[p]) (to_2 (to_ixO (d := .lst (xs.map .int)) rfl to_C rfl) (to_2 (to_ixO (d := .int (p + 1)) rfl to_C rfl) to_C (d := .int p) (by show some (D.int ((p : Int) + 1 - 1)) = _; rw [Int.add_sub_cancel])) ?_) ?_
      · show atI (xs.map D.int) (p : Int) = _
        unfold atI ixN
        rw [List.length_map, if_pos (by omega), if_pos (by omega)]
        show (xs.map D.int)[((p : Int)).toNat]? = _
        rw [Int.toNat_natCast, List.getElem?_map, e]
        rfl
      refine st_setI (to_2 (to_N (to_cons (to_2 (to_2 (to_2 (to_ixO (d := .int sd) rfl to_C rfl) to_C hmu) (to_V (d := .int xs[p]) rfl) (d := .int (sd * 48271 + xs[p])) rfl) to_C (d := .int (sd * 48271 + xs[p] + 11)) rfl) to_nil) (d := .int (sd * 48271 + xs[p] + 11)) rfl) to_C (hm2 _)) rfl to_C rfl (j := 2) rfl ?_
      by_cases c3 : (10 : Int) ^ 18 ≤ xs[p]
      · rw [if_pos c3]
        refine st_if_t (to_cB (to_2 (to_V (d := .int xs[p]) rfl) (to_2 to_C to_C hpw) (by show some (D.bl (decide ((10 : Int) ^ 18 ≤ xs[p]))) = _; rw [decide_eq_true c3]))) ?_
        refine st_setI (to_2 (to_V (d := .int xs[p]) rfl) (to_V (d := .int m) rfl) (hf _)) rfl to_C rfl (j := 3) rfl ?_
        exact st_last (st_ret (to_2 (to_N (to_cons (to_V (d := .int xs[p]) rfl) to_nil) rfl) (to_V (d := .int m) rfl) (hm _)))
      · rw [if_neg c3]
        refine st_if_f (to_cB (to_2 (to_V (d := .int xs[p]) rfl) (to_2 to_C to_C hpw) (by show some (D.bl (decide ((10 : Int) ^ 18 ≤ xs[p]))) = _; rw [decide_eq_false c3]))) (st_next ?_)
        exact st_last (st_ret (to_2 (to_N (to_cons (to_V (d := .int xs[p]) rfl) to_nil) rfl) (to_V (d := .int m) rfl) (hm _)))
    · have e : xs[p]? = none := List.getElem?_eq_none (by omega)
      rw [e]
      dsimp only
      refine st_if_t (to_cB (to_2 (x := .int (p + 1)) (y := .int xs.length) (to_ixO rfl to_C rfl) (to_N (to_cons (to_ixO (d := .lst (xs.map .int)) rfl to_C rfl) to_nil) hl) (by show some (D.bl (decide (((xs.length : Nat) : Int) < (p : Int) + 1))) = _; rw [decide_eq_true (by omega)]))) ?_
      refine st_assoc (st_setI (to_2 (to_N (to_cons (to_2 (to_2 (to_ixO (d := .int sd) rfl to_C rfl) to_C hmu) to_C (d := .int (sd * 48271 + 11)) rfl) to_nil) (d := .int (sd * 48271 + 11)) rfl) to_C (hm2 _)) rfl to_C rfl (j := 2) rfl ?_)
      exact st_ret (to_2 (to_N (to_cons (to_2 (to_ixO (d := .int ((sd * 48271 + 11).fmod 2147483647)) rfl to_C rfl) to_C (hf2 _)) to_nil) rfl) (to_V (d := .int m) rfl) (hm _))
end DL
end
section
set_option Elab.async false
set_option linter.all false
set_option maxRecDepth 100000
set_option maxHeartbeats 2000000
namespace DL
open PySem PySem.Spec PyProof.Rows L2
/-! ### tuple * int, any int -/
theorem tuple_mulS (l : Addr) (items : Array Value) (n : Nat) (dd : Option Addr) (sl : Array (Option Value)) (x : Int) (u : Tok) (c0 : (decide (x < -(2 ^ 63)) || decide (x ≥ 2 ^ 63)) = false) (c1 : (items.isEmpty || x == 1) = true) :
    Meets (Builtin.«tuple.__mul__» ⟨[.ref l, .int x u], []⟩) (fun _ R s => s.heap.get? l = some { cls := .type "tuple", dict := dd, data := .seq items n, slots := sl } ∧ R (.ok (.ret (Value.ref l))) s) :=
  .of_wp fun prog w A R s h => by
    obtain ⟨hp, g, d, tk, os⟩ := s
    obtain ⟨hl, h⟩ := h
    have f1 := AutoSeq1.idx_int
    wp_walk using wpAny_loadPart' hl
    repeat (first
      | (refine wpAny_ite_false (decide_eq_false (by rw [c0]; exact Bool.false_ne_true)) ?_; wp_walk using wpAny_loadPart' hl)
      | (refine wpAny_ite_true (decide_eq_true c1) ?_; wp_walk using wpAny_loadPart' hl))
    exact ⟨_, rfl, h⟩
theorem tuple_mulE (l : Addr) (items : Array Value) (n : Nat) (dd : Option Addr) (sl : Array (Option Value)) (x : Int) (u : Tok) (c0 : (decide (x < -(2 ^ 63)) || decide (x ≥ 2 ^ 63)) = false) (c1 : (items.isEmpty || x == 1) = false) (c2 : (decide (x ≤ 0) || items.isEmpty) = true) :
    Meets (Builtin.«tuple.__mul__» ⟨[.ref l, .int x u], []⟩) (fun _ R s => s.heap.get? l = some { cls := .type "tuple", dict := dd, data := .seq items n, slots := sl } ∧
      R (.ok (.ret (Value.ref s.heap.objs.size))) { s with heap := s.heap.push { cls := Value.type "tuple", data := Data.seq #[] }, toks := s.toks }) :=
  .of_wp fun prog w A R s h => by
    obtain ⟨hp, g, d, tk, os⟩ := s
    obtain ⟨hl, h⟩ := h
    have f1 := AutoSeq1.idx_int
    wp_walk using wpAny_loadPart' hl
    repeat (first
      | (refine wpAny_ite_false (decide_eq_false (by rw [c0]; exact Bool.false_ne_true)) ?_; wp_walk using wpAny_loadPart' hl)
      | (refine wpAny_ite_false (decide_eq_false (by rw [c1]; exact Bool.false_ne_true)) ?_; wp_walk using wpAny_loadPart' hl)
      | (refine wpAny_ite_true (decide_eq_true c2) ?_; wp_walk using wpAny_loadPart' hl))
    exact ⟨_, rfl, h⟩
/-- t * k where the answer is t itself, or void -/
def rRepS (K : PySem.W.Frag) : R2 := fun x y H Q => ∃ l k xs, x = .ref l ∧ y = .int k ∧ SqT K H l xs ∧ -1000000 ≤ k ∧ k ≤ 1000000 ∧ ((xs = [] ∨ k = 1) → Q (.ref l) H) ∧ (xs ≠ [] → k ≤ 0 → ∀ p, H p = none → Q (.ref p) (upd H p (.tup []))) ∧ (xs = [] ∨ k ≤ 1)
theorem op_repS {X : Cx} : OpR X (binaryOp .Mult) (rRepS X.K) := by
  intro pins s σ H x y v u Q I rx ry h
  obtain ⟨l, k, xs, rfl, rfl, hT, h1, h2, q1, q2, hc0⟩ := h
  cases rx
  obtain ⟨t, rfl⟩ := ry
  obtain ⟨its, r, ⟨⟨cls, dd, data, sl⟩, ho, hc, n, hd⟩, hs⟩ := I.tuple hT
  simp only at hc hd
  subst hc hd
  have hle : its.length = xs.length := r.length.symm
  have c0 : (decide (k < -(2 ^ 63)) || decide (k ≥ 2 ^ 63)) = false := by
    rw [decide_eq_false (by omega), decide_eq_false (by omega)] <;> rfl
  have hie : its.toArray.isEmpty = decide (xs = []) := by
    cases its with
    | nil => cases r; rfl
    | cons a b => cases r; rfl
  by_cases c : xs = [] ∨ k = 1
  · have c1 : (its.toArray.isEmpty || k == 1) = true := by
      rw [hie]
      rcases c with c | c
      · rw [decide_eq_true c]; rfl
      · rw [c]; simp
    exact wpAny_binaryOp_repeat_ref (T := "tuple") (U := "int") (by decide) ⟨_, ho, rfl⟩ (fun s' => typeIs_int s' k t) noFill_tuple_mul F.fills_int_mul F.slot_int_rmul repeat_tuple F.slot_int_index.lookup
      (call_meets F.slot_int_rmul (typeIs_int s k t) F.entry_int_rmul (F.args_int_rmul_2 _ _) (int_rmul_tuple k t l its.toArray n dd sl)
        ⟨ho, rfl, ⟨_, ho, rfl⟩, call_meets F.slot_tuple_mul ⟨_, ho, rfl⟩ F.entry_tuple_mul (F.args_tuple_mul_2 _ _) (tuple_mulS l its.toArray n dd sl k t c0 c1) ⟨ho, ⟨.ref l, H, I, rfl, q1 c⟩⟩⟩)
  · have hne : xs ≠ [] := fun e => c (.inl e)
    have hk : k ≤ 0 := by
      rcases hc0 with e | e
      · exact absurd e hne
      · have : k ≠ 1 := fun z => c (.inr z)
        omega
    have c1 : (its.toArray.isEmpty || k == 1) = false := by
      rw [hie, decide_eq_false hne, Bool.false_or]
      exact beq_eq_false_iff_ne.mpr (by omega)
    have c2 : (decide (k ≤ 0) || its.toArray.isEmpty) = true := by rw [decide_eq_true hk]; rfl
    refine wpAny_binaryOp_repeat_ref (T := "tuple") (U := "int") (by decide) ⟨_, ho, rfl⟩ (fun s' => typeIs_int s' k t) noFill_tuple_mul F.fills_int_mul F.slot_int_rmul repeat_tuple F.slot_int_index.lookup
      (call_meets F.slot_int_rmul (typeIs_int s k t) F.entry_int_rmul (F.args_int_rmul_2 _ _) (int_rmul_tuple k t l its.toArray n dd sl)
        ⟨ho, rfl, ⟨_, ho, rfl⟩, call_meets F.slot_tuple_mul ⟨_, ho, rfl⟩ F.entry_tuple_mul (F.args_tuple_mul_2 _ _) (tuple_mulE l its.toArray n dd sl k t c0 c1 c2) ⟨ho, ?_⟩⟩)
    refine ⟨.ref s.heap.objs.size, _, I.laid (t' := s.toks) (o := .tup []) (fun b ob q => Heap.get?_push_of_some _ q) (Nat.le_refl _) ?_, rfl, q2 hne hk _ (I.hok.fresh (Nat.le_refl _))⟩
    exact ⟨Nat.zero_le _, [], .nil, IsTup.new _ _⟩
/-- a * b, tuples by any number -/
def dMul2 : D → D → Option D
  | .tup xs, .int k => if -1000000 ≤ k ∧ k ≤ 1000 ∧ xs.length ≤ 1000 then some (.tup (List.replicate k.toNat xs).flatten) else none
  | x, y => dMul x y
abbrev rMulY (K : PySem.W.Frag) : R2 := fun x y H Q => rMulX K x y H Q ∨ rRepS K x y H Q
theorem o_mul2 {X : Cx} : OpR X (binaryOp .Mult) (rMulY X.K) := o_mul.or op_repS
theorem s_mul2 (b : BC) : Sd2 b (rMulY b.K) dMul2 := fun H x y dx dy d Q ix iy e q => by
  unfold dMul2 at e
  split at e
  · rename_i xs k
    split at e
    · rename_i hl
      cases e
      by_cases c : xs = [] ∨ k ≤ 1
      · refine .inr ?_
        cases iy
        obtain ⟨a1, v1, rfl, s1, m1⟩ := sq_tup ix
        have hnil := imL_nil m1
        refine ⟨a1, _, v1, rfl, rfl, s1, by omega, by omega, fun z => ?_, fun z1 z2 p hp => ?_, c.imp (fun z => hnil.mpr z) id⟩
        · have e2 : (List.replicate k.toNat xs).flatten = xs := by
            rcases z with z | z
            · rw [hnil.mp z]
              induction k.toNat with
              | zero => rfl
              | succ n ih => rw [List.replicate_succ, List.flatten_cons, ih]; rfl
            · rw [z]; simp
          rw [e2] at q
          exact fin_val q ix
        · have e2 : (List.replicate k.toNat xs).flatten = [] := by
            have : k.toNat = 0 := by omega
            rw [this]; rfl
          rw [e2] at q
          exact fin_tup q hp .nil
      · have c1 : xs ≠ [] := fun z => c (.inl z)
        have c2 : ¬ k ≤ 1 := fun z => c (.inr z)
        exact .inl (s_mul b H x y _ _ _ Q ix iy (by unfold dMul; exact if_pos ⟨c1, by omega, hl.2.1, hl.2.2⟩) q)
    · cases e
  · exact .inl (s_mul b H x y _ _ _ Q ix iy e q)
/-! ### slices -/
def cutD (xs : List D) (lo hi : Option Int) : List D := (xs.drop (HT.sIx xs.length 0 lo)).take (HT.sIx xs.length xs.length hi - HT.sIx xs.length 0 lo)
def dSl (x : D) (lo hi : Option Int) : Option D := match x with
  | .tup xs => some (.tup (cutD xs lo hi))
  | .lst xs => some (.lst (cutD xs lo hi))
  | _ => none
def asI : D → Option Int
  | .int i => some i
  | _ => none
@[reducible] def aPart : Option (Act D) → Act (Option Int)
  | none => fun ρ => .ok none ρ
  | some g => g.bind fun d => lift ((asI d).map some)
@[reducible] def aSl (f : Act D) (l h : Option (Act D)) : Act D := f.bind fun x => (aPart l).bind fun lo => (aPart h).bind fun hi => lift (dSl x lo hi)
def tO (b : BC) (x : XC) (f : Act (Option Int)) : TO := fun σ H Q => ∃ ρ, At b σ ρ H ∧ Go b x σ H (f ρ) fun d ρ' => ∀ H', At b σ ρ' H' → Keep H H' → Q d H'
theorem _root_.L2.PO.mono {X : Cx} {e : Option Expr} {t t' : TO} (h : PO X e t) (m : ∀ σ H Q, t' σ H Q → t σ H Q) : PO X e t' := ⟨fun pins s σ H Q I q => h.run pins s σ H Q I (m σ H Q q)⟩
section
variable {X : Cx} {b : BC} {x : XC} {e : Expr} {es : List Expr} {pos p2 p apos : Pos} {f g : Act D} {lo hi : Option Expr} {l h : Option (Act D)} {n : Str}
theorem po_n : PO X none (tO b x (aPart none)) := po_none.mono fun σ H Q ⟨ρ, a, q⟩ => q H a (Keep.refl H)
theorem po_s (he : PE X e (tD b x g)) : PO X (some e) (tO b x (aPart (some g))) := (po_some he).mono fun σ H Q ⟨ρ, a, q⟩ => tD_step (Keep.refl H) a q fun d ρ1 v H1 a1 k1 i1 q1 => by
  obtain ⟨i, e1, q2⟩ := lift_go q1
  cases d with
  | int j => cases e1; cases i1; exact ⟨j, rfl, q2 H1 a1 k1⟩
  | _ => cases e1
theorem tO_step {α : Type} {σ : L2.St} {ρ : DEnv} {H H0 : Hp} {f : Act (Option Int)} {k : Option Int → Act α} {Q : α → DEnv → Prop} {R : Option Int → Hp → Prop} (k0 : Keep H0 H) (a : At b σ ρ H) (h : Go b x σ H0 (f.bind k ρ) Q)
    (hk : ∀ d ρ1 H1, At b σ ρ1 H1 → Keep H H1 → Go b x σ H0 (k d ρ1) Q → R d H1) : tO b x f σ H R :=
  ⟨ρ, a, (h.bind.keep k0).imp fun d ρ1 h1 H1 a1 k1 => hk d ρ1 H1 a1 k1 h1⟩
theorem imL_cut {H : Hp} {vs : List V} {xs : List D} (i : b.ImL H vs xs) (lo hi : Option Int) : b.ImL H (cutV vs lo hi) (cutD xs lo hi) := by
  unfold cutV cutD
  rw [ImL.length i]
  exact ImL.take _ (ImL.drop _ i)
theorem px_sl (hK : X.K = b.K) (he : PE X e (tD b x f)) (hl : PO X lo (tO b x (aPart l))) (hh : PO X hi (tO b x (aPart h))) : PE X (.Subscript e (.Slice lo hi none p2) pos) (tD b x (aSl f l h)) :=
  (pe_frz (pe_slice (sl_tupA.or sl_list) he hl hh)).mono fun σ H Q ⟨ρ, a, q⟩ => tD_step (Keep.refl H) a q fun d1 ρ1 v1 H1 a1 k1 i1 q1 => tO_step k1 a1 q1 fun o1 ρ2 H2 a2 k2 q2 => tO_step (k1.trans k2) a2 q2 fun o2 ρ3 H3 a3 k3 q3 => by
    obtain ⟨d, e, q4⟩ := lift_go q3
    have i3 := Im.keep (k2.trans k3) i1
    have kk := (k1.trans k2).trans k3
    unfold dSl at e
    split at e
    · rename_i xs
      cases e
      obtain ⟨c, vs, rfl, sq, im⟩ := sq_tup i3
      refine .inl ⟨c, vs, rfl, by rw [hK]; exact sq, fun w => ?_, fun w p hp => fin_tup (fun v H4 u i => q4 v H4 (a3.up u) (kk.trans u.toKeep) i) hp (imL_cut im _ _)⟩
      have ec : cutD xs o1 o2 = xs := by
        unfold cutD
        rw [← ImL.length im, w.1, w.2, List.drop_zero, Nat.sub_zero, ImL.length im, List.take_length]
      rw [ec] at q4
      exact fin_val (fun v H4 u i => q4 v H4 (a3.up u) (kk.trans u.toKeep) i) i3
    · rename_i xs
      cases e
      obtain ⟨c, vs, rfl, rd, im⟩ := rd_lst i3
      refine .inr ⟨c, vs, rfl, ?_, fun p hp => fin_lst (fun v H4 u i => q4 v H4 (a3.up u) (kk.trans u.toKeep) i) hp (imL_cut im _ _)⟩
      exact .inl rd
    · cases e
/-! ### xs.index(x) -/
def idxD (z : PyData) : List PyData → Nat → Option Nat
  | [], _ => none
  | y :: ys, i => if PyData.eqv y z = true then some i else idxD z ys (i + 1)
def dIndex : D → D → Option D
  | .lst xs, y => if (D.lst xs).sh = true ∧ y.sh = true then (idxD y.py (D.pys xs) 0).map fun i => .int (i : Nat) else none
  | _, _ => none
theorem idxD_some {z : PyData} : ∀ {ys : List PyData} {k i : Nat}, idxD z ys k = some i → ∃ j w, i = k + j ∧ ys[j]? = some w ∧ PyData.eqv w z = true ∧ ∀ m w', m < j → ys[m]? = some w' → PyData.eqv w' z = false
  | [], _, _, h => by cases h
  | y :: ys, k, i, h => by
    unfold idxD at h
    split at h
    · rename_i hy
      cases h
      exact ⟨0, y, rfl, rfl, hy, fun m w' hm => absurd hm (Nat.not_lt_zero _)⟩
    · rename_i hy
      obtain ⟨j, w, e, h1, h2, h3⟩ := idxD_some h
      refine ⟨j + 1, w, by omega, by simpa using h1, h2, fun m w' hm hw => ?_⟩
      cases m with
      | zero => simp at hw; subst hw; exact Bool.eq_false_iff.mpr hy
      | succ m => exact h3 m w' (by omega) (by simpa using hw)
@[reducible] def aIndex (f g : Act D) : Act D := f.bind fun x => match x with
  | .lst xs => g.bind fun y => lift (dIndex (.lst xs) y)
  | _ => fun _ => .stuck
theorem px_index {e0 : Expr} (hr : X.A.units + 65 < cLine) (hK : X.K = b.K) (he : PE X e0 (tD b x f)) (hy : PE X e (tD b x g))
    (hbase : attributeBase e0 "index" X.env (eval e0 X.env) = eval e0 X.env := by rfl)
    (hfew : ((backTo p (starEach [e] X.env)).all (fun x => !x.1) && (backToKw p (keywordEach [] X.env)).all (fun x => x.1.isSome)
      && decide (([e] : List Expr).length + ([] : List Keyword).length + (if ([] : List Keyword).isEmpty then 0 else 1) < 30)) = true := by rfl)
    (hline : (apos.endLine == p.line) = true := by rfl) (hs : starEach [e] X.env = (false, eval e X.env) :: starEach [] X.env := by rfl) (hplain : (backTo p (starEach [] X.env)).any (·.1) = false := by rfl) :
    PE X (.Call (.Attribute e0 "index" apos) [e] [] p) (tD b x (aIndex f g)) :=
  (pe_bm PySem.F.plainAttrs_list PySem.F.slot_list_index PySem.F.type_list_index (mt_indexD hr) he (pa_cons hy pa_nil hs) hbase hfew hline hs hplain).mono fun σ H Q ⟨ρ, a, q⟩ =>
    tD_step (Keep.refl H) a q fun d1 ρ1 v1 H1 a1 k1 i1 q1 => by
      cases d1 with
      | lst xs =>
        dsimp only at q1
        obtain ⟨c, vs, rfl, rd, im⟩ := rd_lst i1
        refine ⟨.inl ⟨rfl, vs, .inl rd⟩, tD_step k1 a1 q1 fun d2 ρ2 v2 H2 a2 k2 i2 q2 => ?_⟩
        obtain ⟨d, e, q3⟩ := lift_go q2
        unfold dIndex at e
        dsimp only at e
        split at e
        · rename_i hsh
          obtain ⟨i, hi, rfl⟩ := Option.map_eq_some_iff.mp e
          obtain ⟨j, w, ej, h1, h2, h3⟩ := idxD_some hi
          rw [Nat.zero_add] at ej
          subst ej
          obtain ⟨okl, shl⟩ := sh_of hsh.1
          obtain ⟨oky, shy⟩ := sh_of hsh.2
          have dl : Dp X.K H2 (.ref c) (.list (D.pys xs)) := by
            have := dp_of (Im.keep k2 i1) okl
            rw [D.py] at this
            rw [hK]
            exact this
          have dy : Dp X.K H2 v2 d2.py := by rw [hK]; exact dp_of i2 oky
          rw [D.py] at shl
          exact ⟨c, v2, d2.py, D.pys xs, i, w, rfl, rfl, dl, dy, shl, shy, h1, h2, h3, q3 _ H2 a2 (k1.trans k2) (.int _)⟩
        · cases e
      | _ => exact q1.elim
end
end DL
end
section
set_option Elab.async false
set_option linter.all false
set_option maxRecDepth 100000
set_option maxHeartbeats 2000000
namespace DL
open PySem PySem.Spec PyProof.Rows L2
/-- isinstance(e, (tuple, list)) -/
def dIsi2 (d : D) : Option D := match d with
  | .tup _ => some (.bl true)
  | .lst _ => some (.bl true)
  | .non => some (.bl false)
  | .bl _ => some (.bl false)
  | .int _ => some (.bl false)
  | .str _ => some (.bl false)
  | _ => none
theorem isi2_ty {K : PySem.W.Frag} {d r : D} (e : dIsi2 d = some r) : ∃ t k, d.ty = some t ∧ r = .bl k ∧ PySem.W.kitAny K (.type t) [.type "tuple", .type "list"] = some k := by
  have kk : ∀ (t : String) (b1 b2 : Bool), L2.kitB t "tuple" = some b1 → L2.kitB t "list" = some b2 → PySem.W.kitAny K (.type t) [.type "tuple", .type "list"] = some (b1 || b2) := fun t b1 b2 h1 h2 => by
    refine kitAny_cons (kit_ty h1) (fun z => ?_) (fun z => by rw [z]; rfl)
    refine kitAny_cons (kit_ty h2) (fun y => ?_) (fun y => by rw [y]; simp)
    rw [kitAny_nil, z, y]; rfl
  cases d with
  | tup _ => cases e; exact ⟨_, _, rfl, rfl, kk "tuple" true false (by decide +kernel) (by decide +kernel)⟩
  | lst _ => cases e; exact ⟨_, _, rfl, rfl, kk "list" false true (by decide +kernel) (by decide +kernel)⟩
  | non => cases e; exact ⟨_, _, rfl, rfl, kk "NoneType" false false (by decide +kernel) (by decide +kernel)⟩
  | bl _ => cases e; exact ⟨_, _, rfl, rfl, kk "bool" false false (by decide +kernel) (by decide +kernel)⟩
  | int _ => cases e; exact ⟨_, _, rfl, rfl, kk "int" false false (by decide +kernel) (by decide +kernel)⟩
  | str _ => cases e; exact ⟨_, _, rfl, rfl, kk "str" false false (by decide +kernel) (by decide +kernel)⟩
  | dct _ => cases e
  | op _ => cases e
section
variable {X : Cx} {b : BC} {x : XC} {e : Expr} {pos p p1 p2 p3 : Pos} {f : Act D} {k1 : Nat}
theorem px_isi2 (hg : Gl X "isinstance") (hm : X.mg "isinstance" = none) (hg1 : Gl X "tuple") (hm1 : X.mg "tuple" = none) (hg2 : Gl X "list") (hm2 : X.mg "list" = none) (hK : X.K = b.K) (he : PE X e (tD b x f))
    (hs : starEach (e :: [.Tuple [.Name "tuple" p1, .Name "list" p2] k1 p3]) X.env = (false, eval e X.env) :: starEach [.Tuple [.Name "tuple" p1, .Name "list" p2] k1 p3] X.env := by rfl)
    (hpl : (backTo pos (starEach [.Tuple [.Name "tuple" p1, .Name "list" p2] k1 p3] X.env)).any (·.1) = false := by rfl) :
    PE X (.Call (.Name "isinstance" p) [e, .Tuple [.Name "tuple" p1, .Name "list" p2] k1 p3] [] pos) (tD b x (a1 dIsi2 f)) :=
  (pe_callB call_isiT hg hm (by decide +kernel) (pa_cons he (pa_cons (pe_tup (pa_cons (pe_bltn (v := .ty "tuple") hg1 hm1 (by decide +kernel) rfl) (pa_cons (pe_bltn (v := .ty "list") hg2 hm2 (by decide +kernel) rfl) pa_nil))) pa_nil) hs) (he := hs) (hpl := hpl)).mono fun σ H Q ⟨ρ, a, q⟩ =>
    tD_step (Keep.refl H) a q fun d ρ1 v H1 a1 k1 i1 q1 => by
      obtain ⟨r, er, q2⟩ := lift_go q1
      obtain ⟨t, k, ht, rfl, hk⟩ := isi2_ty (K := X.K) er
      refine ⟨by show (2 : Nat) ≤ _; rw [sizeLine_eq]; omega, fun p hp => ?_⟩
      have u : Up b.tb H1 (upd H1 p (.tup [.ty "tuple", .ty "list"])) := Up.new hp
      exact ⟨v, p, [.ty "tuple", .ty "list"], .type t, [.type "tuple", .type "list"], k, rfl, upd_same, .cons (.ty _) (.cons (.ty _) .nil), by rw [hK]; exact tyX_of (Im.keep u.toKeep i1) ht, hk, q2 _ _ (a1.up u) (k1.trans u.toKeep) (.bl _)⟩
/-- not e, by its truth -/
@[reducible] def vNotT (f : Act D) : Act D := f.bind fun y => (lift (D.tru y)).bind fun k => aC (.bl (!k))
theorem px_notT (hK : X.K = b.K) (h : PE X e (tD b x f)) : PE X (.UnaryOp .Not e pos) (tD b x (vNotT f)) := (pe_notT h).mono fun σ H Q ⟨ρ, a, q⟩ =>
  tD_step (Keep.refl H) a q fun d ρ1 v H1 a1 k1 i1 q1 => by
    obtain ⟨k, e, q2⟩ := lift_go q1.bind
    exact ⟨k, by rw [hK]; exact tru_of i1 e, q2 _ H1 a1 k1 (.bl _)⟩
end
end DL
end
section
set_option Elab.async false
set_option linter.all false
set_option maxRecDepth 100000
set_option maxHeartbeats 2000000
namespace DL
open PySem PySem.Spec PyProof.Rows L2 PySem.W
/-! ### sorted(set(xs)), len(set(xs)): xs a list of tuples of ints -/
def tIs : List D → Option (List Int)
  | [] => some []
  | .int i :: r => (tIs r).map (i :: ·)
  | _ :: _ => none
def tI1 : D → Option (List Int)
  | .tup ds => tIs ds
  | _ => none
def tIL : List D → Option (List (List Int))
  | [] => some []
  | d :: r => (tI1 d).bind fun n => (tIL r).map (n :: ·)
def iT (n : List Int) : D := .tup (n.map .int)
def lexB : List Int → List Int → Bool
  | a :: r, c :: q => decide (a < c) || (decide (a = c) && lexB r q)
  | _, _ => false
def insC (x : List Int) : List (List Int) → List (List Int)
  | [] => [x]
  | y :: ys => bif lexB x y then x :: y :: ys else bif lexB y x then y :: insC x ys else y :: ys
def sset (l : List (List Int)) : List (List Int) := l.foldr insC []
abbrev BB : Int := 4096
def tOk (d : Nat) (l : List (List Int)) : Bool := decide (1 ≤ d) && l.all fun n => n.length == d && n.all fun i => decide (0 ≤ i) && decide (i < BB)
def ssOk (l : List (List Int)) : Bool := decide (l.length < 64) && tOk (l.headD [0]).length l
theorem tOk_iff {d : Nat} {l : List (List Int)} (h : tOk d l = true) : 1 ≤ d ∧ ∀ n ∈ l, n.length = d ∧ TS.Bd BB n := by
  unfold tOk at h
  rw [Bool.and_eq_true, decide_eq_true_eq] at h
  refine ⟨h.1, fun n hn => ?_⟩
  have q := List.all_eq_true.mp h.2 n hn
  rw [Bool.and_eq_true, beq_iff_eq] at q
  refine ⟨q.1, fun i hi => ?_⟩
  have z := List.all_eq_true.mp q.2 i hi
  rw [Bool.and_eq_true, decide_eq_true_eq, decide_eq_true_eq] at z
  exact z
theorem lexB_code : ∀ {n m : List Int}, n.length = m.length → TS.Bd BB n → TS.Bd BB m → (lexB n m = true ↔ TS.code BB n < TS.code BB m)
  | [], [], _, _, _ => by
    show (false = true) ↔ (0 : Int) < 0
    constructor
    · intro h; cases h
    · intro h; omega
  | [], _ :: _, h, _, _ => by cases h
  | _ :: _, [], h, _, _ => by cases h
  | a :: r, c :: q, h, h1, h2 => by
    have hl : r.length = q.length := by simpa using h
    have ih := lexB_code hl h1.tail h2.tail
    unfold lexB
    rw [Bool.or_eq_true, Bool.and_eq_true, decide_eq_true_eq, decide_eq_true_eq]
    rcases Int.lt_trichotomy a c with k | k | k
    · exact ⟨fun _ => TS.code_lt hl h1.tail h2.tail k, fun _ => .inl k⟩
    · subst k
      rw [TS.code_same hl, ← ih]
      exact ⟨fun z => z.elim (fun z => by omega) (fun z => z.2), fun z => .inr ⟨rfl, z⟩⟩
    · have := TS.code_lt hl.symm h2.tail h1.tail k
      exact ⟨fun z => z.elim (fun z => by omega) (fun z => by omega), fun z => by omega⟩
theorem lexB_tri : ∀ {n m : List Int}, n.length = m.length → lexB n m = false → lexB m n = false → n = m
  | [], [], _, _, _ => rfl
  | [], _ :: _, h, _, _ => by cases h
  | _ :: _, [], h, _, _ => by cases h
  | a :: r, c :: q, h, h1, h2 => by
    have hl : r.length = q.length := by simpa using h
    unfold lexB at h1 h2
    rw [Bool.or_eq_false_iff, decide_eq_false_iff_not] at h1 h2
    have e : a = c := by omega
    subst e
    have h1' := h1.2
    have h2' := h2.2
    simp only [decide_true, Bool.true_and] at h1' h2'
    rw [lexB_tri hl h1' h2']
theorem lexB_trans : ∀ {n m k : List Int}, lexB n m = true → lexB m k = true → lexB n k = true
  | [], _, _, h, _ => by unfold lexB at h; cases h
  | _ :: _, [], _, h, _ => by unfold lexB at h; cases h
  | _ :: _, _ :: _, [], _, h => by unfold lexB at h; cases h
  | a :: r, c :: q, e :: s, h1, h2 => by
    unfold lexB at h1 h2 ⊢
    simp only [Bool.or_eq_true, Bool.and_eq_true, decide_eq_true_eq] at h1 h2 ⊢
    rcases h1 with h1 | h1 <;> rcases h2 with h2 | h2
    · exact .inl (by omega)
    · exact .inl (by omega)
    · exact .inl (by omega)
    · exact .inr ⟨by omega, lexB_trans h1.2 h2.2⟩
theorem lexB_irr : ∀ (n : List Int), lexB n n = false
  | [] => rfl
  | a :: r => by
    unfold lexB
    rw [lexB_irr r]
    simp
theorem insC_mem {d : Nat} {x z : List Int} : ∀ {l : List (List Int)}, x.length = d → (∀ y ∈ l, y.length = d) → (z ∈ insC x l ↔ z = x ∨ z ∈ l)
  | [], _, _ => by unfold insC; simp
  | y :: ys, hx, hl => by
    unfold insC
    have ih := insC_mem (z := z) hx fun u hu => hl u (List.mem_cons_of_mem _ hu)
    cases h1 : lexB x y with
    | true =>
      show z ∈ x :: y :: ys ↔ _
      rw [List.mem_cons]
    | false =>
      cases h2 : lexB y x with
      | true =>
        show z ∈ y :: insC x ys ↔ _
        rw [List.mem_cons, List.mem_cons, ih]
        constructor
        · rintro (h | h | h) <;> simp [h]
        · rintro (h | h | h) <;> simp [h]
      | false =>
        have e := lexB_tri (hx.trans (hl y List.mem_cons_self).symm) h1 h2
        show z ∈ y :: ys ↔ _
        rw [e, List.mem_cons]
        constructor
        · intro h; exact .inr h
        · rintro (h | h)
          · exact .inl h
          · exact h
theorem insC_asc {d : Nat} {x : List Int} : ∀ {l : List (List Int)}, x.length = d → (∀ y ∈ l, y.length = d) → l.Pairwise (fun a c => lexB a c = true) → (insC x l).Pairwise (fun a c => lexB a c = true)
  | [], _, _, _ => by unfold insC; exact List.pairwise_cons.mpr ⟨fun _ h => (by cases h), List.Pairwise.nil⟩
  | y :: ys, hx, hl, hp => by
    obtain ⟨h0, hp'⟩ := List.pairwise_cons.mp hp
    have hl' : ∀ u ∈ ys, u.length = d := fun u hu => hl u (List.mem_cons_of_mem _ hu)
    unfold insC
    cases h1 : lexB x y with
    | true =>
      show (x :: y :: ys).Pairwise _
      refine List.pairwise_cons.mpr ⟨fun a ha => ?_, hp⟩
      rcases List.mem_cons.mp ha with e | ha
      · rw [e]; exact h1
      · exact lexB_trans h1 (h0 a ha)
    | false =>
      cases h2 : lexB y x with
      | true =>
        show (y :: insC x ys).Pairwise _
        refine List.pairwise_cons.mpr ⟨fun a ha => ?_, insC_asc hx hl' hp'⟩
        rcases (insC_mem hx hl').mp ha with e | ha
        · rw [e]; exact h2
        · exact h0 a ha
      | false => exact hp
theorem sset_mem {d : Nat} {z : List Int} : ∀ {l : List (List Int)}, (∀ y ∈ l, y.length = d) → (z ∈ sset l ↔ z ∈ l) ∧ (∀ y ∈ sset l, y.length = d)
  | [], _ => ⟨Iff.rfl, fun y hy => by cases hy⟩
  | x :: l, h => by
    have hl : ∀ y ∈ l, y.length = d := fun u hu => h u (List.mem_cons_of_mem _ hu)
    have hx := h x List.mem_cons_self
    have ih := fun z => sset_mem (z := z) hl
    have m := fun z => insC_mem (z := z) hx (ih z).2
    refine ⟨?_, fun y hy => ?_⟩
    · show z ∈ insC x (sset l) ↔ _
      rw [m z, (ih z).1, List.mem_cons]
    · rcases (m y).mp hy with e | hy
      · rw [e]; exact hx
      · exact (ih y).2 y hy
theorem sset_asc {d : Nat} : ∀ {l : List (List Int)}, (∀ y ∈ l, y.length = d) → (sset l).Pairwise (fun a c => lexB a c = true)
  | [], _ => .nil
  | x :: l, h => by
    have hl : ∀ y ∈ l, y.length = d := fun u hu => h u (List.mem_cons_of_mem _ hu)
    exact insC_asc (h x List.mem_cons_self) (sset_mem (z := []) hl).2 (sset_asc hl)
theorem asc_nodup {l : List (List Int)} (h : l.Pairwise (fun a c => lexB a c = true)) : l.Nodup := h.imp fun {a c} q e => by
  rw [e, lexB_irr] at q
  cases q
/-- a row of the same members, ascending by code, is sset's -/
theorem sset_unique {d : Nat} {l m : List (List Int)} (hl : ∀ n ∈ l, n.length = d ∧ TS.Bd BB n) (hn : m.Nodup) (hp : m.Pairwise fun a c => TS.code BB a ≤ TS.code BB c) (hm : ∀ z, z ∈ m ↔ z ∈ l) : m = sset l := by
  have hd : ∀ y ∈ l, y.length = d := fun y hy => (hl y hy).1
  have ms : ∀ z, z ∈ sset l ↔ z ∈ l := fun z => (sset_mem hd).1
  have pm : m.Perm (sset l) := (List.perm_ext_iff_of_nodup hn (asc_nodup (sset_asc hd))).mpr fun z => (hm z).trans (ms z).symm
  refine List.Perm.eq_of_pairwise (le := fun a c => TS.code BB a ≤ TS.code BB c) (fun a c ha hc h1 h2 => ?_) hp ((sset_asc hd).imp_of_mem fun {a c} ha hc q => ?_) pm
  · have za := hl a ((hm a).mp ha)
    have zc := hl c ((ms c).mp hc)
    refine lexB_tri (za.1.trans zc.1.symm) (Bool.eq_false_iff.mpr fun h => ?_) (Bool.eq_false_iff.mpr fun h => ?_)
    · have := (lexB_code (za.1.trans zc.1.symm) za.2 zc.2).mp h
      omega
    · have := (lexB_code (zc.1.trans za.1.symm) zc.2 za.2).mp h
      omega
  · have za := hl a ((ms a).mp ha)
    have zc := hl c ((ms c).mp hc)
    exact Int.le_of_lt ((lexB_code (za.1.trans zc.1.symm) za.2 zc.2).mp q)
section
variable {b : BC} {H : Hp}
theorem ints_im : ∀ {vs : List V} {ds : List D} {ns : List Int}, b.ImL H vs ds → tIs ds = some ns → vs = ns.map V.int
  | _, _, _, .nil, e => by
    unfold tIs at e
    cases e
    rfl
  | _, _, _, .cons i ii, e => by
    cases i with
    | int i =>
      unfold tIs at e
      obtain ⟨m, e1, e2⟩ := Option.map_eq_some_iff.mp e
      subst e2
      rw [ints_im ii e1]
      rfl
    | _ => unfold tIs at e; cases e
theorem tups_im : ∀ {vs : List V} {ds : List D} {nss : List (List Int)}, b.ImL H vs ds → tIL ds = some nss → ∃ ks : List (Addr × List Int), vs = ks.map (fun p => V.ref p.1) ∧ ks.map (·.2) = nss ∧ ∀ p ∈ ks, SqT b.K H p.1 (p.2.map V.int)
  | _, _, _, .nil, e => by
    unfold tIL at e
    cases e
    exact ⟨[], rfl, rfl, fun p h => by cases h⟩
  | _, _, _, .cons i ii, e => by
    unfold tIL at e
    obtain ⟨n, e1, e2⟩ := Option.bind_eq_some_iff.mp e
    obtain ⟨m, e3, e4⟩ := Option.map_eq_some_iff.mp e2
    subst e4
    obtain ⟨ks, h1, h2, h3⟩ := tups_im ii e3
    cases i with
    | @tup a vs' xs hs hi =>
      have e5 := ints_im hi e1
      refine ⟨(a, n) :: ks, by rw [h1]; rfl, by rw [List.map_cons, h2], fun p hp => ?_⟩
      rcases List.mem_cons.mp hp with z | hp
      · rw [z, ← e5]; exact hs
      · exact h3 p hp
    | _ => unfold tI1 at e1; cases e1
theorem imL_intsV : ∀ (n : List Int), b.ImL H (n.map V.int) (n.map D.int)
  | [] => .nil
  | i :: n => .cons (.int i) (imL_intsV n)
theorem imL_tups : ∀ (L : List (Addr × List Int)), (∀ p ∈ L, SqT b.K H p.1 (p.2.map V.int)) → b.ImL H (L.map fun p => V.ref p.1) ((L.map (·.2)).map iT)
  | [], _ => .nil
  | p :: L, h => .cons (.tup (h p List.mem_cons_self) (imL_intsV p.2)) (imL_tups L fun q hq => h q (List.mem_cons_of_mem _ hq))
end
section
variable {X : Cx} {b : BC} {x : XC} {k : Nat} {e : Expr} {pos p p2 pos2 : Pos} {f : Act D} {fs : Act (List D)}
def dSS (d : D) : Option (List D) := match d with
  | .lst ds => (tIL ds).bind fun l => if ssOk l = true then some ((sset l).map iT) else none
  | _ => none
@[reducible] def aSS (f : Act D) : Act (List D) := f.bind fun d => lift (dSS d)
theorem px_srtSetF (hr : Room k X.A) (hc : X.calm = true) (hP : X.prog = b.P) (hw : X.w = b.w) (hK : X.K = b.K) (hg : Gl X "sorted") (hm : X.mg "sorted" = none) (hg2 : Gl X "set") (hm2 : X.mg "set" = none) (h1 : PE X e (tD b x f))
    (na : starEach [e] X.env = (false, eval e X.env) :: starEach [] X.env := by rfl) (na2 : starEach [.Call (.Name "set" p2) [e] [] pos2] X.env = (false, eval (.Call (.Name "set" p2) [e] [] pos2) X.env) :: starEach [] X.env := by rfl) :
    PE X (.Call (.Name "sorted" p) [.Call (.Name "set" p2) [e] [] pos2] [] pos) (tF b x (aSS f)) :=
  (pe_callB (cr_sortedT hc) hg hm (by decide +kernel) (L2.pa_cons (pe_callTy (cr_setOfT hc (by have := hr.un; omega)) hg2 hm2 (by decide +kernel) (L2.pa_cons h1 L2.pa_nil na) (he := na)) L2.pa_nil na2) (he := na2)).mono fun σ H Q ⟨ρ, a, q⟩ =>
    tD_step (Keep.refl H) a q fun d ρ1 v H1 a1 k1 i1 q1 => by
      obtain ⟨rs, e1, q2⟩ := lift_go q1
      cases i1 with
      | @lst ad ws ds ho im =>
        obtain ⟨o, ho⟩ := ho
        obtain ⟨l, e2, e3⟩ := Option.bind_eq_some_iff.mp e1
        split at e3
        · rename_i hok
          cases e3
          unfold ssOk at hok
          rw [Bool.and_eq_true, decide_eq_true_eq] at hok
          obtain ⟨h64, hok⟩ := hok
          obtain ⟨hd1, hB⟩ := tOk_iff hok
          obtain ⟨ks, w1, w2, w3⟩ := tups_im im e2
          have hlen : ks.length = l.length := by rw [← w2, List.length_map]
          refine ⟨ad, ks, rfl, .inl (.inr ⟨o, by rw [ho, w1]⟩), fun p hp => by rw [hK]; exact w3 p hp, by omega, fun A L hn hs hall => ?_⟩
          have u : Up b.tb H1 (upd H1 A (SetTO X.prog X.w A L)) := Up.new hn
          have sq : ∀ p ∈ L, SqT b.K (upd H1 A (SetTO X.prog X.w A L)) p.1 (p.2.map V.int) := fun p hp => DL.SqT.kept u.toKeep (w3 p (hs p hp))
          have memL : ∀ z, z ∈ L.map (·.2) ↔ z ∈ l := fun z => by
            constructor
            · intro hz
              obtain ⟨p, hp, e⟩ := List.mem_map.mp hz
              rw [← w2]
              exact List.mem_map.mpr ⟨p, hs p hp, e⟩
            · intro hz
              rw [← w2] at hz
              obtain ⟨p, hp, e⟩ := List.mem_map.mp hz
              rw [← e]
              exact hall p hp
          refine ⟨A, L, _, BB, rfl, upd_same, fun p hp => by rw [hK]; exact sq p hp, hd1, fun p hp => hB p.2 ((memL _).mp (List.mem_map.mpr ⟨p, hp, rfl⟩)), fun L' p pm nd h6 pw hn2 => ?_⟩
          have u2 : Up b.tb (upd H1 A (SetTO X.prog X.w A L)) (upd (upd H1 A (SetTO X.prog X.w A L)) p (.lst (L'.map fun q => V.ref q.1))) := Up.new hn2
          have es : L'.map (·.2) = sset l := sset_unique hB nd (List.pairwise_map.mpr pw) fun z => ((pm.map (·.2)).mem_iff).trans (memL z)
          have a2 := a1.up u
          refine q2 p _ _ (a2.up u2) ((k1.trans u.toKeep).trans u2.toKeep) (a2.bNone hn2) (a2.notNew hn2) upd_same ?_
          rw [← es]
          exact imL_tups L' fun q hq => DL.SqT.kept u2.toKeep (sq q (pm.mem_iff.mp hq))
        · cases e3
      | _ => cases e1
/-- len of a set -/
def rLenST (K : PySem.W.Frag) (P : Program) (w : World) : List V → Hp → VK → Prop := fun vs H Q => ∃ (a : Addr) (L : List (Addr × List Int)), vs = [V.ref a] ∧ H a = some (SetTO P w a L) ∧ (∀ p ∈ L, SqT K H p.1 (p.2.map V.int)) ∧ ((L.map (·.2)).Nodup → Q (.int L.length) H)
theorem cr_lenST : CallR X (.builtin "len") (rLenST X.K X.prog X.w) := by
  intro pins s σ H vs us Q I r h
  obtain ⟨a, L, rfl, ha, hk, q⟩ := h
  have R0 : SetT0 X.prog X.w s.heap a L := (I.hok a _ ha).1
  obtain ⟨es, ep, t, R⟩ := R0.full fun p hp => I.isT (hk p hp)
  rw [Vals.ref1 r]
  obtain ⟨o, ho, hex, hd⟩ := R.ob
  have hs := R.size
  have hf := R.few
  exact call_len_set ho hex hd R.fits (by omega) ⟨.int L.length, H, I.tok _, ⟨_, by rw [hs]⟩, q R.nd⟩
def dLS (d : D) : Option D := match d with
  | .lst ds => (tIL ds).bind fun l => if ssOk l = true then some (.int (sset l).length) else none
  | _ => none
theorem px_lenSet (hr : Room k X.A) (hc : X.calm = true) (hK : X.K = b.K) (hg : Gl X "len") (hm : X.mg "len" = none) (hg2 : Gl X "set") (hm2 : X.mg "set" = none) (h1 : PE X e (tD b x f))
    (na : starEach [e] X.env = (false, eval e X.env) :: starEach [] X.env := by rfl) (na2 : starEach [.Call (.Name "set" p2) [e] [] pos2] X.env = (false, eval (.Call (.Name "set" p2) [e] [] pos2) X.env) :: starEach [] X.env := by rfl) :
    PE X (.Call (.Name "len" p) [.Call (.Name "set" p2) [e] [] pos2] [] pos) (tD b x (a1 dLS f)) :=
  (pe_callB cr_lenST hg hm (by decide +kernel) (L2.pa_cons (pe_callTy (cr_setOfT hc (by have := hr.un; omega)) hg2 hm2 (by decide +kernel) (L2.pa_cons h1 L2.pa_nil na) (he := na)) L2.pa_nil na2) (he := na2)).mono fun σ H Q ⟨ρ, a, q⟩ =>
    tD_step (Keep.refl H) a q fun d ρ1 v H1 a1 k1 i1 q1 => by
      obtain ⟨rs, e1, q2⟩ := lift_go q1
      cases i1 with
      | @lst ad ws ds ho im =>
        obtain ⟨o, ho⟩ := ho
        obtain ⟨l, e2, e3⟩ := Option.bind_eq_some_iff.mp e1
        split at e3
        · rename_i hok
          cases e3
          unfold ssOk at hok
          rw [Bool.and_eq_true, decide_eq_true_eq] at hok
          obtain ⟨h64, hok⟩ := hok
          obtain ⟨hd1, hB⟩ := tOk_iff hok
          obtain ⟨ks, w1, w2, w3⟩ := tups_im im e2
          have hlen : ks.length = l.length := by rw [← w2, List.length_map]
          refine ⟨ad, ks, rfl, .inl (.inr ⟨o, by rw [ho, w1]⟩), fun p hp => by rw [hK]; exact w3 p hp, by omega, fun A L hn hs hall => ?_⟩
          have u : Up b.tb H1 (upd H1 A (SetTO X.prog X.w A L)) := Up.new hn
          refine ⟨A, L, rfl, upd_same, fun p hp => by rw [hK]; exact DL.SqT.kept u.toKeep (w3 p (hs p hp)), fun nd => ?_⟩
          have memL : ∀ z, z ∈ L.map (·.2) ↔ z ∈ l := fun z => by
            constructor
            · intro hz
              obtain ⟨p, hp, e⟩ := List.mem_map.mp hz
              rw [← w2]
              exact List.mem_map.mpr ⟨p, hs p hp, e⟩
            · intro hz
              rw [← w2] at hz
              obtain ⟨p, hp, e⟩ := List.mem_map.mp hz
              rw [← e]
              exact hall p hp
          have hd : ∀ y ∈ l, y.length = (l.headD [0]).length := fun y hy => (hB y hy).1
          have pm : (L.map (·.2)).Perm (sset l) := (List.perm_ext_iff_of_nodup nd (asc_nodup (sset_asc hd))).mpr fun z => (memL z).trans (sset_mem hd).1.symm
          have el : L.length = (sset l).length := by rw [← pm.length_eq, List.length_map]
          rw [el]
          exact q2 _ _ (a1.up u) (k1.trans u.toKeep) (.int _)
        · cases e3
      | _ => cases e1
/-- x >= y, alike data -/
def dGeD (a c : D) : Option D := if (a.okp && c.okp && PySem.W.alike a.py c.py) = true ∧ a.py.depth ≤ 30 ∧ a.nn = true then some (.bl (!dLtB a c)) else none
def rGeD (K : PySem.W.Frag) : R2 := fun x y H Q => ∃ d e, Dp K H x d ∧ Dp K H y e ∧ PySem.W.alike d e = true ∧ d ≠ .none ∧ d.depth ≤ 30 ∧ Q (.bl (!PySem.W.dataLt d e)) H
theorem op_geD (hu : X.A.units + 65 < cLine) : OpR X (compareOp .GtE) (rGeD X.K) := by
  intro pins s σ H x y v u Q I rx ry h
  obtain ⟨d, e, hd, he, ha, hn, hz, q⟩ := h
  obtain ⟨as, r1⟩ := Dp.reads I d x v hd rx
  obtain ⟨bs, r2⟩ := Dp.reads I e y u he ry
  exact PySem.W.ge_data r1 r2 ha hn (by have := Nat.min_le_left d.depth e.depth; omega) ⟨.bl _, H, I, rfl, q⟩
theorem s_geD (b : BC) : Sd2 b (rGeD b.K) dGeD := fun H x y dx dy d Q ix iy e q => by
  unfold dGeD at e
  split at e
  · rename_i h
    cases e
    obtain ⟨h1, h2, h3⟩ := h
    rw [Bool.and_eq_true, Bool.and_eq_true] at h1
    refine ⟨_, _, dp_of ix h1.1.1, dp_of iy h1.1.2, h1.2, ?_, h2, fin_val q (.bl _)⟩
    cases dx with
    | non => cases h3
    | dct _ => cases h3
    | op _ => cases h3
    | _ => intro z; rw [D.py] at z; cases z
  · cases e
theorem bl_geD : ∀ d1 d2 d, dGeD d1 d2 = some d → ∃ k, d = .bl k := fun d1 d2 d e => by
  unfold dGeD at e
  split at e
  · cases e; exact ⟨_, rfl⟩
  · cases e
/-- a, b, c = e1, e2, e3 -/
@[reducible] def gPar3 (i j l : Nat) (fs : Act (List D)) : GS := gOf fs fun ds ρ => match ds with
  | [d, e, u] => .nx (((ρ.set i (some (.d d))).set j (some (.d e))).set l (some (.d u)))
  | _ => .stuck
theorem s_par3 {i j l : Nat} {n m o : Str} {px py pz pt : Pos} {kt k2 : Nat} {pt2 : Pos} {fs : Act (List D)} {a c e : Expr} (hpi : b.pin = none ∨ i ≠ 0) (hpj : b.pin = none ∨ j ≠ 0) (hpl : b.pin = none ∨ l ≠ 0) (ha : PA X [a, c, e] (tL b x fs))
    (base : ∀ ta, PA X [a, c, e] ta → PS X (.Assign [.Tuple [.Name n px, .Name m py, .Name o pz] kt pt] (.Tuple [a, c, e] k2 pt2) pos) (tPar3 i j l ta)) :
    PS X (.Assign [.Tuple [.Name n px, .Name m py, .Name o pz] kt pt] (.Tuple [a, c, e] k2 pt2) pos) (tS b x (gPar3 i j l fs)) :=
  (base _ ha).mono fun E σ H ⟨ρ, a0, q⟩ => by
    refine ⟨ρ, a0, ?_⟩
    rcases gOf_go (σ := σ) q with ⟨ds, ρ1, e, q1⟩ | ⟨e', ρ1, e2, ho, q1⟩
    · rw [e]
      intro vs H1 a1 k1 im
      split at q1
      · cases im with
        | cons i1 im =>
          cases im with
          | cons i2 im =>
            cases im with
            | cons i3 im =>
              cases im
              exact ⟨_, _, _, rfl, q1 _ H1 (((a1.set hpi i1).set hpj i2).set hpl i3) k1⟩
      · exact q1.elim
    · rw [e2]
      exact ⟨ho, fun cls dx H' a1 k1 z => q1 cls dx σ H' a1 k1 z⟩
end
end DL
end
section
set_option Elab.async false
set_option linter.all false
set_option maxRecDepth 100000
set_option maxHeartbeats 4000000
namespace RD
open PySem PySem.Spec PyProof.Rows L2 DL
def g_size_of : GS := (gSeq (gSet 1 (aC (.int 1)))
    (gSeq (gFor (aI (aV 0)) (tgN 2) (gAugM 1 (aV 2)))
    (gRet (aV 1))))
def F_size_of : List Cell → RS D := fnF 3 g_size_of
def g_is_number : GS := (gRet (vAnd (aN dIsi (aCons (aV 0) (aCons (aC (.op (.ty "int"))) aNil))) (vAnd (vNotT (aN dIsi (aCons (aV 0) (aCons (aC (.op (.ty "bool"))) aNil)))) (aChain (dCmpI (fun i j => decide (i ≤ j))) (dCmpI (fun i j => decide (i ≤ j))) (aV 1) (aV 0) (aV 2)))))
def F_is_number : List Cell → RS D := fnF 3 g_is_number
def g_need_wheels : GS := (gSeq (gIf (cOr (cNot (cB (aN dIsi (aCons (aV 0) (aCons (aC (.op (.ty "tuple"))) aNil))))) (cNot (cChain (fun i j => decide (i ≤ j)) (fun i j => decide (i ≤ j)) (aC (.int 1)) (aN dLen (aCons (aV 0) aNil)) (aC (.int 3))))) gDead gNext)
    (gSeq (gFor (aIN opEnum (aCons (aV 0) aNil)) (tgT 2 (tgCons (tgN 1) (tgCons (tgN 2) tgNil))) (gIf (cNot (cB (aCall 3 F_is_number (aCons (aV 2) (aCons (aC (.int 2)) (aCons (aC (.int 400)) aNil)))))) gDead gNext))
    (gIf (cB (a2 (dCmpI (fun i j => decide (j < i))) (aCall 1 F_size_of (aCons (aV 0) aNil)) (aC (.int 400)))) gDead gNext)))
def F_need_wheels : List Cell → RS D := fnF 3 g_need_wheels
def g_is_step : GS := (gSeq (gIf (cOr (cNot (cB (aN dIsi (aCons (aV 1) (aCons (aC (.op (.ty "tuple"))) aNil))))) (cB (a2 (dEq true) (aN dLen (aCons (aV 1) aNil)) (aN dLen (aCons (aV 0) aNil))))) (gRet (aC (.bl false))) gNext)
    (gRet (aAll2 tNum2 (aCons (aV 1) (aCons (aV 0) aNil)))))
def F_is_step : List Cell → RS D := fnF 2 g_is_step
def g_need_row : GS := (gSeq (gIf (cOr (cNot (cB (aN dIsi (aCons (aV 1) (aCons (aC (.op (.ty "tuple"))) aNil))))) (cB (a2 (dCmpI (fun i j => decide (j < i))) (aN dLen (aCons (aV 1) aNil)) (aC (.int 40))))) gDead gNext)
    (gFor (aIN opEnum (aCons (aV 1) aNil)) (tgT 2 (tgCons (tgN 2) (tgCons (tgN 3) tgNil))) (gIf (cNot (cB (aCall 2 F_is_step (aCons (aV 0) (aCons (aV 3) aNil))))) gDead gNext)))
def F_need_row : List Cell → RS D := fnF 4 g_need_row
def g_all_steps : GS := (gSeq (gSet 1 (aLst (fLst (aCons (aN dTup aNil) aNil))))
    (gSeq (gFor (aI (aV 0)) (tgN 2) (gSet 1 (aLst (aComp2 [3, 4] [4] (aI (aV 1)) (tgN 3) cYes (aIN opRange1 (aCons (aV 2) aNil)) (tgN 4) cYes (a2 dAdd (aV 3) (aN dTup (aCons (aV 4) aNil)))))))
    (gRet (aV 1))))
def F_all_steps : List Cell → RS D := fnF 5 g_all_steps
def g_home : GS := (gRet (aN dTuple (aCons (a2 dMul2 (aLst (fLst (aCons (aC (.int 0)) aNil))) (aN dLen (aCons (aV 0) aNil))) aNil)))
def F_home : List Cell → RS D := fnF 1 g_home
def g_added : GS := (gRet (aN dTuple (aCons (aLst (aComp [3, 4, 5] (aIN opZip3 (aCons (aV 1) (aCons (aV 2) (aCons (aV 0) aNil)))) (tgT 3 (tgCons (tgN 3) (tgCons (tgN 4) (tgCons (tgN 5) tgNil)))) cYes (a2 dMod (a2 dAdd (aV 3) (aV 4)) (aV 5)))) aNil)))
def F_added : List Cell → RS D := fnF 6 g_added
def g_numbers_by : GS := (gSeq (gPar3K 3 4 5 (aCons (aV 2) (aCons (aC (.int 1)) aNil)))
    (gSeq (gWh (cB (a2 (dEq true) (aV 4) (aCall 1 F_home (aCons (aV 0) aNil)))) (gSeq (gPutK 3 (aV 5) (aV 4))
    (gPar 4 5 (aCons (aCall 3 F_added (aCons (aV 0) (aCons (aV 4) (aCons (aV 2) aNil)))) (aCons (a2 dAdd (aV 5) (aC (.int 1))) aNil)))) 1000)
    (gSeq (gFrzK 3 (gSet 6 (aLst (aComp [7] (aI (aV 1)) (tgN 7) cYes (aGet1 (aV 3) (aV 7))))))
    (gRet (cI (cB (a2 (dIn false) (aC .non) (aV 6))) (aC .non) (aN dTuple (aCons (aV 6) aNil)))))))
def F_numbers_by : List Cell → RS D := fnF 8 g_numbers_by
def g_order_of : GS := (gSeq (gPar 2 3 (aCons (aC (.int 1)) (aCons (aV 1) aNil)))
    (gSeq (gWh (cB (a2 (dEq true) (aV 3) (aCall 1 F_home (aCons (aV 0) aNil)))) (gPar 2 3 (aCons (a2 dAdd (aV 2) (aC (.int 1))) (aCons (aCall 3 F_added (aCons (aV 0) (aCons (aV 3) (aCons (aV 1) aNil)))) aNil))) 1000)
    (gRet (aV 2))))
def F_order_of : List Cell → RS D := fnF 4 g_order_of
def g_tellers_of : GS := (gSeq (gOwn 2 (fLst aNil))
    (gSeq (gFor (aI (aCall 1 F_all_steps (aCons (aV 0) aNil))) (tgN 3) (gSeq (gSet 4 (aCall 3 F_numbers_by (aCons (aV 0) (aCons (aV 1) (aCons (aV 3) aNil)))))
    (gIf (cAnd (cB (a2 (dIsN true) (aV 4) (aC .non))) (cB (a2 (dCmpI (fun i j => decide (i < j))) (aN dSum (aCons (aV 4) aNil)) (aCall 2 F_order_of (aCons (aV 0) (aCons (aV 3) aNil)))))) (gApp 2 (aN dTup (aCons (aV 3) (aCons (aV 4) aNil)))) gNext)))
    (gFrz 2 (gRet (aV 2)))))
def F_tellers_of : List Cell → RS D := fnF 5 g_tellers_of
def g_teller : GS := (gSeq (gDrop (aCall 1 F_need_wheels (aCons (aV 0) aNil)))
    (gSeq (gDrop (aCall 2 F_need_row (aCons (aV 0) (aCons (aV 1) aNil))))
    (gSeq (gSet 2 (aCall 2 F_tellers_of (aCons (aV 0) (aCons (aV 1) aNil))))
    (gRet (cI (cT (aV 2)) (a2 dIx (aV 2) (aC (.int 0))) (aC .non))))))
def F_teller : List Cell → RS D := fnF 3 g_teller
def g_few_of : GS := (gSeq (gFor (aI (aCall 2 F_tellers_of (aCons (aV 0) (aCons (aV 1) aNil)))) (tgT 2 (tgCons (tgN 2) (tgCons (tgN 3) tgNil))) (gIf (cB (a2 (dCmpI (fun i j => decide (i ≤ j))) (aN dSum (aCons (aV 3) aNil)) (a2 dSub (a2 dMul2 (aC (.int 2)) (aN dLen (aCons (aV 1) aNil))) (aC (.int 2))))) (gRet (aN dTup (aCons (aV 2) (aCons (aV 3) aNil)))) gNext))
    (gRet (aC .non)))
def F_few_of : List Cell → RS D := fnF 4 g_few_of
def g_has_few : GS := (gSeq (gDrop (aCall 1 F_need_wheels (aCons (aV 0) aNil)))
    (gSeq (gDrop (aCall 2 F_need_row (aCons (aV 0) (aCons (aV 1) aNil))))
    (gRet (a2 (dIsN true) (aCall 2 F_few_of (aCons (aV 0) (aCons (aV 1) aNil))) (aC .non)))))
def F_has_few : List Cell → RS D := fnF 2 g_has_few
def g_few_teller : GS := (gSeq (gDrop (aCall 1 F_need_wheels (aCons (aV 0) aNil)))
    (gSeq (gDrop (aCall 2 F_need_row (aCons (aV 0) (aCons (aV 1) aNil))))
    (gRet (aCall 2 F_few_of (aCons (aV 0) (aCons (aV 1) aNil))))))
def F_few_teller : List Cell → RS D := fnF 2 g_few_teller
def g_divisor : GS := (gSeq (gWh (cT (aV 1)) (gPar 0 1 (aCons (aV 1) (aCons (a2 dMod (aV 0) (aV 1)) aNil))) 1000)
    (gRet (aV 0)))
def F_divisor : List Cell → RS D := fnF 2 g_divisor
def g_primes_to : GS := (gRet (aLst (aComp [1] (aIN opRange2 (aCons (aC (.int 1)) (aCons (aV 0) aNil))) (tgN 1) (cB (a2 (dEq false) (aCall 2 F_divisor (aCons (aV 1) (aCons (aV 0) aNil))) (aC (.int 1)))) (aV 1))))
def F_primes_to : List Cell → RS D := fnF 2 g_primes_to
def g_lists_of (R : List Cell → RS D) : GS := (gSeq (gIf (cB (a2 (dEq false) (aV 1) (aC (.int 0)))) (gRet (cI (cB (a2 (dEq false) (aV 0) (aC (.int 0)))) (aLst (fLst (aCons (aN dTup aNil) aNil))) (aLst (fLst aNil)))) gNext)
    (gSeq (gOwn 3 (fLst aNil))
    (gSeq (gFor (aIN opRange3 (aCons (aN dMin2 (aCons (aV 2) (aCons (a2 dAdd (a2 dSub (aV 0) (aV 1)) (aC (.int 1))) aNil))) (aCons (aC (.int 0)) (aCons (a1 dNeg (aC (.int 1))) aNil)))) (tgN 4) (gSeq (gIf (cB (a2 (dCmpI (fun i j => decide (i < j))) (a2 dMul2 (aV 4) (aV 1)) (aV 0))) (gFrz 3 (gRet (aV 3))) gNext)
    (gExt 3 (aComp [5] (aI (aCall 3 R (aCons (a2 dSub (aV 0) (aV 4)) (aCons (a2 dSub (aV 1) (aC (.int 1))) (aCons (aV 4) aNil))))) (tgN 5) cYes (a2 dAdd (aN dTup (aCons (aV 4) aNil)) (aV 5))))))
    (gFrz 3 (gRet (aV 3))))))
def G_lists_of : Nat → List Cell → RS D
  | 0 => fun _ => .stuck
  | n + 1 => fnF 6 (g_lists_of (G_lists_of n))
def F_lists_of : List Cell → RS D := G_lists_of 60
def g_rows_with : GS := (gSeq (gOwn 3 (fLst aNil))
    (gSeq (gFor (aI (aCall 1 F_primes_to (aCons (aV 0) aNil))) (tgN 4) (gFor (aI (aV 2)) (tgN 5) (gFor (aI (aCall 3 F_lists_of (aCons (aV 5) (aCons (aV 1) (aCons (aV 5) aNil))))) (tgN 6) (gApp 3 (aN dTuple (aCons (aLst (aSrt (aLst (aComp [7] (aI (aV 6)) (tgN 7) cYes (aN dTup (aCons (a2 dMod (a2 dMul2 (aV 4) (aV 7)) (aV 0)) aNil)))))) aNil))))))
    (gFrz 3 (gRet (aN dTuple (aCons (aLst (aSrt (aV 3))) aNil))))))
def F_rows_with : List Cell → RS D := fnF 8 g_rows_with
def g_need_places : GS := (gIf (cNot (cB (aCall 3 F_is_number (aCons (aV 0) (aCons (aC (.int 2)) (aCons (aC (.int 400)) aNil)))))) gDead gNext)
def F_need_places : List Cell → RS D := fnF 1 g_need_places
def g_need_long : GS := (gSeq (gDrop (aCall 1 F_need_places (aCons (aV 0) aNil)))
    (gIf (cOr (cNot (cB (aCall 3 F_is_number (aCons (aV 1) (aCons (aC (.int 1)) (aCons (aC (.int 400)) aNil)))))) (cB (a2 (dCmpI (fun i j => decide (i ≤ j))) (a2 dMul2 (aC (.int 2)) (aV 1)) (aV 0)))) gDead gNext))
def F_need_long : List Cell → RS D := fnF 2 g_need_long
def g_partitions_of : GS := (gSeq (gOwn 1 (fCat (aLst (fLst (aCons (aC (.int 1)) aNil))) (a2 dMul2 (aLst (fLst (aCons (aC (.int 0)) aNil))) (aV 0))))
    (gSeq (gFor (aIN opRange2 (aCons (aC (.int 1)) (aCons (a2 dAdd (aV 0) (aC (.int 1))) aNil))) (tgN 2) (gFor (aIN opRange2 (aCons (aV 2) (aCons (a2 dAdd (aV 0) (aC (.int 1))) aNil))) (tgN 3) (gAugI 1 (fun i j => i + j) (aV 3) (aIxO 1 (a2 dSub (aV 3) (aV 2))))))
    (gRet (aIxO 1 (aV 0)))))
def F_partitions_of : List Cell → RS D := fnF 4 g_partitions_of
def g_count_long : GS := (gSeq (gDrop (aCall 2 F_need_long (aCons (aV 0) (aCons (aV 1) aNil))))
    (gSeq (gSet 2 (aN dSum (aCons (aLst (aComp [3] (aIN opRange1 (aCons (a2 dSub (aV 0) (aV 1)) aNil)) (tgN 3) cYes (aCall 1 F_partitions_of (aCons (aV 3) aNil)))) aNil)))
    (gRet (a2 dMul2 (aN dLen (aCons (aCall 1 F_primes_to (aCons (aV 0) aNil)) aNil)) (aV 2)))))
def F_count_long : List Cell → RS D := fnF 4 g_count_long
def g_long_rows : GS := (gSeq (gIf (cB (a2 (dCmpI (fun i j => decide (j < i))) (aCall 2 F_count_long (aCons (aV 0) (aCons (aV 1) aNil))) (aC (.int 5000)))) gDead gNext)
    (gRet (aCall 3 F_rows_with (aCons (aV 0) (aCons (aV 1) (aCons (aLst (fRg2 (aV 1) (aV 0))) aNil))))))
def F_long_rows : List Cell → RS D := fnF 2 g_long_rows
def g_need_great : GS := (gIf (cOr (cNot (cB (aCall 3 F_is_number (aCons (aV 1) (aCons (aC (.int 1)) (aCons (aC (.int 400)) aNil)))))) (cB (a2 (dCmpI (fun i j => decide (i < j))) (a2 dMul2 (aC (.int 2)) (aV 1)) (a2 dAdd (aV 0) (aC (.int 3)))))) gDead gNext)
def F_need_great : List Cell → RS D := fnF 2 g_need_great
def g_count_rounds : GS := (gSeq (gDrop (aCall 1 F_need_places (aCons (aV 0) aNil)))
    (gSeq (gDrop (aCall 2 F_need_great (aCons (aV 0) (aCons (aV 1) aNil))))
    (gRet (cI (cB (a2 (dCmpI (fun i j => decide (i ≤ j))) (aV 1) (aV 0))) (a2 dMul2 (aN dLen (aCons (aCall 1 F_primes_to (aCons (aV 0) aNil)) aNil)) (aCall 1 F_partitions_of (aCons (a2 dSub (aV 0) (aV 1)) aNil))) (aC (.int 0))))))
def F_count_rounds : List Cell → RS D := fnF 2 g_count_rounds
def g_round_rows : GS := (gSeq (gIf (cB (a2 (dCmpI (fun i j => decide (j < i))) (aCall 2 F_count_rounds (aCons (aV 0) (aCons (aV 1) aNil))) (aC (.int 5000)))) gDead gNext)
    (gRet (aCall 3 F_rows_with (aCons (aV 0) (aCons (aV 1) (aCons (aLst (fLst (aCons (aV 0) aNil))) aNil))))))
def F_round_rows : List Cell → RS D := fnF 2 g_round_rows
def g_round_teller : GS := (gSeq (gDrop (aCall 1 F_need_places (aCons (aV 0) aNil)))
    (gSeq (gDrop (aCall 2 F_need_row (aCons (aN dTup (aCons (aV 0) aNil)) (aCons (aV 1) aNil))))
    (gSeq (gDrop (aCall 2 F_need_great (aCons (aV 0) (aCons (aN dLen (aCons (aV 1) aNil)) aNil))))
    (gSeq (gFor (aI (aCall 1 F_primes_to (aCons (aV 0) aNil))) (tgN 2) (gSeq (gSet 3 (aCall 3 F_numbers_by (aCons (aN dTup (aCons (aV 0) aNil)) (aCons (aV 1) (aCons (aN dTup (aCons (aV 2) aNil)) aNil)))))
    (gIf (cAnd (cB (a2 (dIsN true) (aV 3) (aC .non))) (cB (a2 (dEq false) (aN dSum (aCons (aV 3) aNil)) (aV 0)))) (gRet (aN dTup (aCons (aN dTup (aCons (aV 2) aNil)) (aCons (aV 3) aNil)))) gNext)))
    (gRet (aC .non))))))
def F_round_teller : List Cell → RS D := fnF 4 g_round_teller
def g_sums_of : GS := (gSeq (gSet 2 (aDct (fun ρ => .ok [] ρ)))
    (gSeq (gFor (aI (aV 1)) (tgN 3) (gSeq (gOwnK 4 (aCopy (aV 2)))
    (gSeq (gPutK 4 (aC (.bl true)) (aV 3))
    (gSeq (gFor (aKeys (aV 2)) (tgN 5) (gPutK 4 (aC (.bl true)) (aCall 3 F_added (aCons (aV 0) (aCons (aV 5) (aCons (aV 3) aNil))))))
    (gFrzK 4 (gSet 2 (aV 4)))))))
    (gRet (aLst (aSrtK (aV 2))))))
def F_sums_of : List Cell → RS D := fnF 6 g_sums_of
def g_stays_out : GS := (gRet (a2 (dIn true) (aCall 1 F_home (aCons (aV 0) aNil)) (aCall 2 F_sums_of (aCons (aV 0) (aCons (aV 1) aNil)))))
def F_stays_out : List Cell → RS D := fnF 2 g_stays_out
def g_total_of : GS := (gSeq (gSet 2 (aCall 1 F_home (aCons (aV 0) aNil)))
    (gSeq (gFor (aI (aV 1)) (tgN 3) (gSet 2 (aCall 3 F_added (aCons (aV 0) (aCons (aV 2) (aCons (aV 3) aNil))))))
    (gRet (aV 2))))
def F_total_of : List Cell → RS D := fnF 4 g_total_of
def g_is_round_of : GS := (gRet (vAnd (a2 (dCmpI (fun i j => decide (j < i))) (aN dLen (aCons (aV 1) aNil)) (aC (.int 0))) (vAnd (a2 (dEq false) (aCall 2 F_total_of (aCons (aV 0) (aCons (aV 1) aNil))) (aCall 1 F_home (aCons (aV 0) aNil))) (aCall 2 F_stays_out (aCons (aV 0) (aCons (aSl (aV 1) (some (aC (.int 1))) none) aNil))))))
def F_is_round_of : List Cell → RS D := fnF 2 g_is_round_of
def g_is_round : GS := (gSeq (gDrop (aCall 1 F_need_wheels (aCons (aV 0) aNil)))
    (gSeq (gDrop (aCall 2 F_need_row (aCons (aV 0) (aCons (aV 1) aNil))))
    (gRet (aCall 2 F_is_round_of (aCons (aV 0) (aCons (aV 1) aNil))))))
def F_is_round : List Cell → RS D := fnF 2 g_is_round
def g_least_lots : GS := (gSeq (gSet 2 (aDct (aPairK (aN dTup (aCons (aC (.int 0)) (aCons (aCall 1 F_home (aCons (aV 0) aNil)) aNil))) (aN dTup aNil))))
    (gSeq (gFor (aIN opEnum (aCons (aV 1) aNil)) (tgT 2 (tgCons (tgN 3) (tgCons (tgN 4) tgNil))) (gSeq (gOwnK 5 (aCopy (aV 2)))
    (gSeq (gFor (aItems (aV 2)) (tgT 2 (tgCons (tgT 2 (tgCons (tgN 6) (tgCons (tgN 7) tgNil))) (tgCons (tgN 8) tgNil))) (gSeq (gSet 9 (aN dTup (aCons (a2 dAdd (aV 6) (aC (.int 1))) (aCons (aCall 3 F_added (aCons (aV 0) (aCons (aV 7) (aCons (aV 4) aNil)))) aNil))))
    (gSeq (gSet 10 (a2 dAdd (aV 8) (aN dTup (aCons (aV 3) aNil))))
    (gIf (cOr (cInKO true 5 (aV 9)) (cB (a2 dLtD (aV 10) (aIxKO 5 (aV 9))))) (gPutK 5 (aV 10) (aV 9)) gNext))))
    (gFrzK 5 (gSet 2 (aV 5))))))
    (gRet (aV 2))))
def F_least_lots : List Cell → RS D := fnF 11 g_least_lots
def g_sizes_home : GS := (gSeq (gDrop (aCall 1 F_need_places (aCons (aV 0) aNil)))
    (gSeq (gDrop (aCall 2 F_need_row (aCons (aN dTup (aCons (aV 0) aNil)) (aCons (aV 1) aNil))))
    (gRet (aN dTuple (aCons (aLst (aSrt (aLst (aComp [2, 3] (aKeys (aCall 2 F_least_lots (aCons (aN dTup (aCons (aV 0) aNil)) (aCons (aV 1) aNil)))) (tgT 2 (tgCons (tgN 2) (tgCons (tgN 3) tgNil))) (cAnd (cB (a2 (dEq false) (aV 3) (aN dTup (aCons (aC (.int 0)) aNil)))) (cB (a2 (dCmpI (fun i j => decide (j < i))) (aV 2) (aC (.int 0))))) (aV 2))))) aNil)))))
def F_sizes_home : List Cell → RS D := fnF 4 g_sizes_home
def g_total : GS := (gSeq (gDrop (aCall 1 F_need_wheels (aCons (aV 0) aNil)))
    (gSeq (gDrop (aCall 2 F_need_row (aCons (aV 0) (aCons (aV 1) aNil))))
    (gRet (aCall 2 F_total_of (aCons (aV 0) (aCons (aV 1) aNil))))))
def F_total : List Cell → RS D := fnF 2 g_total
def g_sums : GS := (gSeq (gDrop (aCall 1 F_need_wheels (aCons (aV 0) aNil)))
    (gSeq (gDrop (aCall 2 F_need_row (aCons (aV 0) (aCons (aV 1) aNil))))
    (gRet (aN dTuple (aCons (aCall 2 F_sums_of (aCons (aV 0) (aCons (aV 1) aNil))) aNil)))))
def F_sums : List Cell → RS D := fnF 2 g_sums
def g_never_home : GS := (gSeq (gDrop (aCall 1 F_need_wheels (aCons (aV 0) aNil)))
    (gSeq (gDrop (aCall 2 F_need_row (aCons (aV 0) (aCons (aV 1) aNil))))
    (gRet (aCall 2 F_stays_out (aCons (aV 0) (aCons (aV 1) aNil))))))
def F_never_home : List Cell → RS D := fnF 2 g_never_home
def g_long_teller : GS := (gSeq (gDrop (aCall 1 F_need_places (aCons (aV 0) aNil)))
    (gSeq (gDrop (aCall 2 F_need_row (aCons (aN dTup (aCons (aV 0) aNil)) (aCons (aV 1) aNil))))
    (gSeq (gIf (cB (a2 (dCmpI (fun i j => decide (i ≤ j))) (a2 dMul2 (aC (.int 2)) (aN dLen (aCons (aV 1) aNil))) (aV 0))) gDead gNext)
    (gSeq (gSet 2 (aCall 2 F_tellers_of (aCons (aN dTup (aCons (aV 0) aNil)) (aCons (aV 1) aNil))))
    (gRet (cI (cT (aV 2)) (a2 dIx (aV 2) (aC (.int 0))) (aC .non)))))))
def F_long_teller : List Cell → RS D := fnF 3 g_long_teller
def g_lot_to : GS := (gSeq (gSet 3 (aCall 2 F_least_lots (aCons (aV 0) (aCons (aV 1) aNil))))
    (gSeq (gFor (aIN opRange2 (aCons (aC (.int 1)) (aCons (a2 dAdd (aN dLen (aCons (aV 1) aNil)) (aC (.int 1))) aNil))) (tgN 4) (gIf (cB (a2 (dInK false) (aN dTup (aCons (aV 4) (aCons (aV 2) aNil))) (aV 3))) (gRet (a2 dIxK (aV 3) (aN dTup (aCons (aV 4) (aCons (aV 2) aNil))))) gNext))
    (gRet (aC .non))))
def F_lot_to : List Cell → RS D := fnF 5 g_lot_to
def g_home_lot : GS := (gSeq (gDrop (aCall 1 F_need_wheels (aCons (aV 0) aNil)))
    (gSeq (gDrop (aCall 2 F_need_row (aCons (aV 0) (aCons (aV 1) aNil))))
    (gRet (aCall 3 F_lot_to (aCons (aV 0) (aCons (aV 1) (aCons (aCall 1 F_home (aCons (aV 0) aNil)) aNil)))))))
def F_home_lot : List Cell → RS D := fnF 2 g_home_lot
def g_need_step : GS := (gIf (cNot (cB (aCall 2 F_is_step (aCons (aV 0) (aCons (aV 1) aNil))))) gDead gNext)
def F_need_step : List Cell → RS D := fnF 2 g_need_step
def g_smallest_lot : GS := (gSeq (gDrop (aCall 1 F_need_wheels (aCons (aV 0) aNil)))
    (gSeq (gDrop (aCall 2 F_need_row (aCons (aV 0) (aCons (aV 1) aNil))))
    (gSeq (gDrop (aCall 2 F_need_step (aCons (aV 0) (aCons (aV 2) aNil))))
    (gRet (aCall 3 F_lot_to (aCons (aV 0) (aCons (aV 1) (aCons (aV 2) aNil))))))))
def F_smallest_lot : List Cell → RS D := fnF 3 g_smallest_lot
def g_count_lots : GS := (gSeq (gDrop (aCall 1 F_need_wheels (aCons (aV 0) aNil)))
    (gSeq (gDrop (aCall 2 F_need_row (aCons (aV 0) (aCons (aV 1) aNil))))
    (gSeq (gDrop (aCall 2 F_need_step (aCons (aV 0) (aCons (aV 2) aNil))))
    (gSeq (gSet 3 (aDct (aPairK (aCall 1 F_home (aCons (aV 0) aNil)) (aC (.int 1)))))
    (gSeq (gFor (aI (aV 1)) (tgN 4) (gSeq (gOwnK 5 (aCopy (aV 3)))
    (gSeq (gFor (aItems (aV 3)) (tgT 2 (tgCons (tgN 6) (tgCons (tgN 7) tgNil))) (gSeq (gSet 8 (aCall 3 F_added (aCons (aV 0) (aCons (aV 6) (aCons (aV 4) aNil)))))
    (gPutK 5 (a2 dAdd (aGet2O 5 (aV 8) (aC (.int 0))) (aV 7)) (aV 8))))
    (gFrzK 5 (gSet 3 (aV 5))))))
    (gRet (aGet2 (aV 3) (aV 2) (aC (.int 0)))))))))
def F_count_lots : List Cell → RS D := fnF 9 g_count_lots
def g_partitions : GS := (gSeq (gIf (cNot (cB (aCall 3 F_is_number (aCons (aV 0) (aCons (aC (.int 0)) (aCons (aC (.int 400)) aNil)))))) gDead gNext)
    (gRet (aCall 1 F_partitions_of (aCons (aV 0) aNil))))
def F_partitions : List Cell → RS D := fnF 1 g_partitions
def g_most_steps : GS := (gSeq (gDrop (aCall 1 F_need_places (aCons (aV 0) aNil)))
    (gRet (a2 dSub (aV 0) (aC (.int 1)))))
def F_most_steps : List Cell → RS D := fnF 1 g_most_steps
def g_parted : GS := (gSeq (gDrop (aCall 1 F_need_wheels (aCons (aV 0) aNil)))
    (gSeq (gDrop (aCall 2 F_need_row (aCons (aV 0) (aCons (aV 1) aNil))))
    (gSeq (gIf (cB (a2 (dEq true) (aCall 2 F_total_of (aCons (aV 0) (aCons (aV 1) aNil))) (aCall 1 F_home (aCons (aV 0) aNil)))) gDead gNext)
    (gSeq (gPar2L 2 3 (aLst (fRg1 (aN dLen (aCons (aV 1) aNil)))))
    (gSeq (gWh (cT (aV 2)) (gSeq (gSet 4 (aCall 3 F_lot_to (aCons (aV 0) (aCons (aLst (aComp [5] (aI (aV 2)) (tgN 5) cYes (a2 dIx (aV 1) (aV 5)))) (aCons (aCall 1 F_home (aCons (aV 0) aNil)) aNil)))))
    (gSeq (gApp 3 (aN dTuple (aCons (aLst (aComp [6] (aI (aV 4)) (tgN 6) cYes (a2 dIx (aV 2) (aV 6)))) aNil)))
    (gSet 2 (aLst (aComp [6, 5] (aIN opEnum (aCons (aV 2) aNil)) (tgT 2 (tgCons (tgN 6) (tgCons (tgN 5) tgNil))) (cB (a2 (dIn true) (aV 6) (aV 4))) (aV 5)))))) 1000)
    (gFrz 3 (gRet (aN dTuple (aCons (aLst (aSrt (aV 3))) aNil)))))))))
def F_parted : List Cell → RS D := fnF 7 g_parted
def g_same_lot : GS := (gSeq (gDrop (aCall 1 F_need_places (aCons (aV 0) aNil)))
    (gSeq (gDrop (aCall 2 F_need_row (aCons (aN dTup (aCons (aV 0) aNil)) (aCons (aV 1) aNil))))
    (gRet (aGet1 (aCall 2 F_least_lots (aCons (aN dTup (aCons (aV 0) aNil)) (aCons (aV 1) aNil))) (aN dTup (aCons (aV 0) (aCons (aN dTup (aCons (aC (.int 0)) aNil)) aNil)))))))
def F_same_lot : List Cell → RS D := fnF 2 g_same_lot
def g_has_same : GS := (gRet (a2 (dIsN true) (aCall 2 F_same_lot (aCons (aV 0) (aCons (aV 1) aNil))) (aC .non)))
def F_has_same : List Cell → RS D := fnF 2 g_has_same
def g_times : GS := (gRet (aN dTuple (aCons (aLst (aComp [3, 4] (aIN opZip2 (aCons (aV 1) (aCons (aV 0) aNil))) (tgT 2 (tgCons (tgN 3) (tgCons (tgN 4) tgNil))) cYes (a2 dMod (a2 dMul2 (aV 3) (aV 2)) (aV 4)))) aNil)))
def F_times : List Cell → RS D := fnF 5 g_times
def g_multiple : GS := (gSeq (gDrop (aCall 1 F_need_wheels (aCons (aV 0) aNil)))
    (gSeq (gDrop (aCall 2 F_need_step (aCons (aV 0) (aCons (aV 1) aNil))))
    (gSeq (gIf (cNot (cB (aCall 3 F_is_number (aCons (aV 2) (aCons (aC (.int 0)) (aCons (a2 dPow (aC (.int 10)) (aC (.int 9))) aNil)))))) gDead gNext)
    (gRet (aCall 3 F_times (aCons (aV 0) (aCons (aV 1) (aCons (aV 2) aNil))))))))
def F_multiple : List Cell → RS D := fnF 3 g_multiple
def g_order : GS := (gSeq (gDrop (aCall 1 F_need_wheels (aCons (aV 0) aNil)))
    (gSeq (gDrop (aCall 2 F_need_step (aCons (aV 0) (aCons (aV 1) aNil))))
    (gRet (aCall 2 F_order_of (aCons (aV 0) (aCons (aV 1) aNil))))))
def F_order : List Cell → RS D := fnF 2 g_order
def g_does_tell : GS := (gSeq (gIf (cOr (cNot (cB (aN dIsi (aCons (aV 2) (aCons (aC (.op (.ty "tuple"))) aNil))))) (cOr (cB (a2 (dEq true) (aN dLen (aCons (aV 2) aNil)) (aC (.int 2)))) (cNot (cB (aCall 2 F_is_step (aCons (aV 0) (aCons (a2 dIx (aV 2) (aC (.int 0))) aNil))))))) (gRet (aC (.bl false))) gNext)
    (gSeq (gAsg (tgT 2 (tgCons (tgN 3) (tgCons (tgN 4) tgNil))) (aV 2))
    (gSeq (gIf (cOr (cNot (cB (aN dIsi (aCons (aV 4) (aCons (aC (.op (.ty "tuple"))) aNil))))) (cB (a2 (dEq true) (aN dLen (aCons (aV 4) aNil)) (aN dLen (aCons (aV 1) aNil))))) (gRet (aC (.bl false))) gNext)
    (gSeq (gSet 5 (a2 dSub (aCall 2 F_order_of (aCons (aV 0) (aCons (aV 3) aNil))) (aC (.int 1))))
    (gSeq (gIf (cOr (cNot (cB (aAll1 (tNum1 1 5) (aV 4)))) (cB (a2 (dCmpI (fun i j => decide (j < i))) (aN dSum (aCons (aV 4) aNil)) (aV 5)))) (gRet (aC (.bl false))) gNext)
    (gRet (aAll2 (tTim 0 3) (aCons (aV 1) (aCons (aV 4) aNil)))))))))
def F_does_tell : List Cell → RS D := fnF 6 g_does_tell
def g_shows_teller : GS := (gSeq (gDrop (aCall 1 F_need_wheels (aCons (aV 0) aNil)))
    (gSeq (gDrop (aCall 2 F_need_row (aCons (aV 0) (aCons (aV 1) aNil))))
    (gSeq (gIf (cB (a2 (dIsN false) (aV 2) (aC .non))) (gRet (vNotT (aCall 2 F_tellers_of (aCons (aV 0) (aCons (aV 1) aNil))))) gNext)
    (gRet (aCall 3 F_does_tell (aCons (aV 0) (aCons (aV 1) (aCons (aV 2) aNil))))))))
def F_shows_teller : List Cell → RS D := fnF 3 g_shows_teller
def g__law_taken : GS := (gSeq (gIf (cB (a2 (dCmpI (fun i j => decide (j < i))) (aIxO 0 (aC (.int 3))) (aC (.int 0)))) (gSeq (gSet 2 (a2 dMod (aN dInt (aCons (aIxO 0 (aC (.int 3))) aNil)) (aV 1)))
    (gSeq (gSetI 0 (a2 dFdiv (aIxO 0 (aC (.int 3))) (aV 1)) (aC (.int 3)))
    (gRet (aV 2)))) gNext)
    (gSeq (gSetI 0 (a2 dAdd (aIxO 0 (aC (.int 1))) (aC (.int 1))) (aC (.int 1)))
    (gSeq (gIf (cB (a2 (dCmpI (fun i j => decide (j < i))) (aIxO 0 (aC (.int 1))) (aN dLen (aCons (aIxO 0 (aC (.int 0))) aNil)))) (gSeq (gSetI 0 (a2 dMod (aN dInt (aCons (a2 dAdd (a2 dMul2 (aIxO 0 (aC (.int 2))) (aC (.int 48271))) (aC (.int 11))) aNil)) (aC (.int 2147483647))) (aC (.int 2)))
    (gRet (a2 dMod (aN dInt (aCons (a2 dFdiv (aIxO 0 (aC (.int 2))) (aC (.int 7))) aNil)) (aV 1)))) gNext)
    (gSeq (gSet 3 (a2 dIx (aIxO 0 (aC (.int 0))) (a2 dSub (aIxO 0 (aC (.int 1))) (aC (.int 1)))))
    (gSeq (gSetI 0 (a2 dMod (aN dInt (aCons (a2 dAdd (a2 dAdd (a2 dMul2 (aIxO 0 (aC (.int 2))) (aC (.int 48271))) (aV 3)) (aC (.int 11))) aNil)) (aC (.int 2147483647))) (aC (.int 2)))
    (gSeq (gIf (cB (a2 (dCmpI (fun i j => decide (j ≤ i))) (aV 3) (a2 dPow (aC (.int 10)) (aC (.int 18))))) (gSetI 0 (a2 dFdiv (aV 3) (aV 1)) (aC (.int 3))) gNext)
    (gRet (a2 dMod (aN dInt (aCons (aV 3) aNil)) (aV 1)))))))))
def F__law_taken : List Cell → RS D := fnF 4 g__law_taken
def g__law_pick : GS := (gRet (a2 dIx (aV 1) (aCallO 2 F__law_taken 0 (aCons (aN dLen (aCons (aV 1) aNil)) aNil))))
def F__law_pick : List Cell → RS D := fnF 2 g__law_pick
def g__law_wheels : GS := (gSeq (gSet 1 (aLst (fLst (aCons (aN dTup (aCons (aC (.int 2)) aNil)) (aCons (aN dTup (aCons (aC (.int 3)) aNil)) (aCons (aN dTup (aCons (aC (.int 4)) aNil)) (aCons (aN dTup (aCons (aC (.int 5)) aNil)) (aCons (aN dTup (aCons (aC (.int 6)) aNil)) (aCons (aN dTup (aCons (aC (.int 7)) aNil)) (aCons (aN dTup (aCons (aC (.int 8)) aNil)) (aCons (aN dTup (aCons (aC (.int 9)) aNil)) (aCons (aN dTup (aCons (aC (.int 10)) aNil)) (aCons (aN dTup (aCons (aC (.int 11)) aNil)) aNil)))))))))))))
    (gSeq (gSet 1 (a2 dAdd (aV 1) (aLst (fLst (aCons (aN dTup (aCons (aC (.int 12)) aNil)) (aCons (aN dTup (aCons (aC (.int 13)) aNil)) (aCons (aN dTup (aCons (aC (.int 2)) (aCons (aC (.int 2)) aNil))) (aCons (aN dTup (aCons (aC (.int 2)) (aCons (aC (.int 4)) aNil))) (aCons (aN dTup (aCons (aC (.int 3)) (aCons (aC (.int 3)) aNil))) (aCons (aN dTup (aCons (aC (.int 2)) (aCons (aC (.int 6)) aNil))) (aCons (aN dTup (aCons (aC (.int 4)) (aCons (aC (.int 4)) aNil))) aNil)))))))))))
    (gRet (aCallO 2 F__law_pick 0 (aCons (a2 dAdd (aV 1) (aLst (fLst (aCons (aN dTup (aCons (aC (.int 2)) (aCons (aC (.int 2)) (aCons (aC (.int 2)) aNil)))) (aCons (aN dTup (aCons (aC (.int 3)) (aCons (aC (.int 6)) aNil))) (aCons (aN dTup (aCons (aC (.int 2)) (aCons (aC (.int 3)) aNil))) (aCons (aN dTup (aCons (aC (.int 16)) aNil)) (aCons (aN dTup (aCons (aC (.int 15)) aNil)) (aCons (aN dTup (aCons (aC (.int 2)) (aCons (aC (.int 2)) (aCons (aC (.int 4)) aNil)))) aNil))))))))) aNil)))))
def F__law_wheels : List Cell → RS D := fnF 2 g__law_wheels
def g__law_steps : GS := (gSeq (gSet 1 (aLst (fLst (aCons (aN dTup aNil) aNil))))
    (gSeq (gFor (aI (aV 0)) (tgN 2) (gSeq (gSet 3 (aLst (fLst aNil)))
    (gSeq (gFor (aI (aV 1)) (tgN 4) (gSet 3 (a2 dAdd (aV 3) (aLst (aComp [5] (aIN opRange1 (aCons (aV 2) aNil)) (tgN 5) cYes (a2 dAdd (aV 4) (aN dTup (aCons (aV 5) aNil))))))))
    (gSet 1 (aV 3)))))
    (gRet (aV 1))))
def F__law_steps : List Cell → RS D := fnF 6 g__law_steps
def g__law_home : GS := (gRet (a2 dMul2 (aN dTup (aCons (aC (.int 0)) aNil)) (aN dLen (aCons (aV 0) aNil))))
def F__law_home : List Cell → RS D := fnF 1 g__law_home
def g__law_added : GS := (gRet (aN dTuple (aCons (aLst (aComp [3] (aIN opRange1 (aCons (aN dLen (aCons (aV 0) aNil)) aNil)) (tgN 3) cYes (a2 dMod (a2 dAdd (a2 dIx (aV 1) (aV 3)) (a2 dIx (aV 2) (aV 3))) (a2 dIx (aV 0) (aV 3))))) aNil)))
def F__law_added : List Cell → RS D := fnF 4 g__law_added
def g__law_order : GS := (gSeq (gPar 2 3 (aCons (aC (.int 1)) (aCons (aV 1) aNil)))
    (gSeq (gWh (cB (a2 (dEq true) (aV 3) (aCall 1 F__law_home (aCons (aV 0) aNil)))) (gPar 2 3 (aCons (a2 dAdd (aV 2) (aC (.int 1))) (aCons (aCall 3 F__law_added (aCons (aV 0) (aCons (aV 3) (aCons (aV 1) aNil)))) aNil))) 1000)
    (gRet (aV 2))))
def F__law_order : List Cell → RS D := fnF 4 g__law_order
def g__law_times : GS := (gRet (aN dTuple (aCons (aLst (aComp [3] (aIN opRange1 (aCons (aN dLen (aCons (aV 0) aNil)) aNil)) (tgN 3) cYes (a2 dMod (a2 dMul2 (a2 dIx (aV 1) (aV 3)) (aV 2)) (a2 dIx (aV 0) (aV 3))))) aNil)))
def F__law_times : List Cell → RS D := fnF 4 g__law_times
def g__law_tellers : GS := (gSeq (gOwn 2 (fLst aNil))
    (gSeq (gFor (aI (aCall 1 F__law_steps (aCons (aV 0) aNil))) (tgN 3) (gSeq (gSet 4 (aCall 2 F__law_order (aCons (aV 0) (aCons (aV 3) aNil))))
    (gSeq (gSet 5 (aLst (aComp [6] (aIN opRange2 (aCons (aC (.int 1)) (aCons (aV 4) aNil))) (tgN 6) cYes (aCall 3 F__law_times (aCons (aV 0) (aCons (aV 3) (aCons (aV 6) aNil)))))))
    (gIf (cB (a2 (dEq false) (aLst (aComp [7] (aI (aV 1)) (tgN 7) (cB (a2 (dIn true) (aV 7) (aV 5))) (aV 7))) (aLst (fLst aNil)))) (gSeq (gSet 8 (aN dTuple (aCons (aLst (aComp [7] (aI (aV 1)) (tgN 7) cYes (a2 dAdd (aC (.int 1)) (aIndex (aV 5) (aV 7))))) aNil)))
    (gIf (cB (a2 (dCmpI (fun i j => decide (i < j))) (aN dSum (aCons (aV 8) aNil)) (aV 4))) (gApp 2 (aN dTup (aCons (aV 3) (aCons (aV 8) aNil)))) gNext)) gNext))))
    (gFrz 2 (gRet (aV 2)))))
def F__law_tellers : List Cell → RS D := fnF 9 g__law_tellers
def g__law_row : GS := (gSeq (gSet 3 (aCall 1 F__law_steps (aCons (aV 1) aNil)))
    (gSeq (gAsg (tgT 2 (tgCons (tgN 4) (tgCons (tgN 5) tgNil))) (aN dTup (aCons (aCallO 2 F__law_taken 0 (aCons (a2 dAdd (aV 2) (aC (.int 1))) aNil)) (aCons (aCallO 2 F__law_pick 0 (aCons (aV 3) aNil)) aNil))))
    (gSeq (gSet 6 (aCallO 2 F__law_taken 0 (aCons (aC (.int 3)) aNil)))
    (gSeq (gIf (cB (a2 (dEq false) (aV 6) (aC (.int 0)))) (gRet (aN dTuple (aCons (aLst (aComp [7] (aIN opRange1 (aCons (aV 4) aNil)) (tgN 7) cYes (aCallO 2 F__law_pick 0 (aCons (aV 3) aNil)))) aNil))) gNext)
    (gSeq (gSet 8 (aN dTuple (aCons (aLst (aComp [7] (aIN opRange1 (aCons (aV 4) aNil)) (tgN 7) cYes (aCall 3 F__law_times (aCons (aV 1) (aCons (aV 5) (aCons (a2 dAdd (aC (.int 1)) (aCallO 2 F__law_taken 0 (aCons (a2 dAdd (aC (.int 1)) (aCallO 2 F__law_taken 0 (aCons (aC (.int 3)) aNil))) aNil))) aNil)))))) aNil)))
    (gSeq (gIf (cOr (cB (a2 (dEq false) (aV 6) (aC (.int 1)))) (cB (a2 (dEq false) (aV 4) (aC (.int 0))))) (gRet (aV 8)) gNext)
    (gSeq (gSet 9 (aCallO 2 F__law_taken 0 (aCons (aV 4) aNil)))
    (gRet (a2 dAdd (a2 dAdd (aSl (aV 8) none (some (aV 9))) (aN dTup (aCons (aCallO 2 F__law_pick 0 (aCons (aV 3) aNil)) aNil))) (aSl (aV 8) (some (a2 dAdd (aV 9) (aC (.int 1)))) none))))))))))
def F__law_row : List Cell → RS D := fnF 10 g__law_row
def g__law_alike (R : List Cell → RS D) : GS := (gSeq (gIf (cB (a1 dIsi2 (aV 1))) (gSeq (gIf (cOr (cNot (cB (a1 dIsi2 (aV 0)))) (cB (a2 (dEq true) (aN dIsi (aCons (aV 0) (aCons (aC (.op (.ty "list"))) aNil))) (aN dIsi (aCons (aV 1) (aCons (aC (.op (.ty "list"))) aNil)))))) (gRet (aC (.bl false))) gNext)
    (gSeq (gIf (cB (a2 (dEq true) (aN dLen (aCons (aV 0) aNil)) (aN dLen (aCons (aV 1) aNil)))) (gRet (aC (.bl false))) gNext)
    (gRet (a2 (dEq false) (aLst (aComp [2] (aIN opRange1 (aCons (aN dLen (aCons (aV 1) aNil)) aNil)) (tgN 2) (cNot (cB (aCall 2 R (aCons (a2 dIx (aV 0) (aV 2)) (aCons (a2 dIx (aV 1) (aV 2)) aNil))))) (aV 2))) (aLst (fLst aNil)))))) gNext)
    (gSeq (gIf (cOr (cB (a2 (dIsN false) (aV 1) (aC .non))) (cB (aN dIsi (aCons (aV 1) (aCons (aC (.op (.ty "str"))) aNil))))) (gRet (vAnd (a2 (dEq false) (aV 0) (aV 1)) (a2 (dEq false) (aN dIsi (aCons (aV 0) (aCons (aC (.op (.ty "str"))) aNil))) (aN dIsi (aCons (aV 1) (aCons (aC (.op (.ty "str"))) aNil)))))) gNext)
    (gRet (vAnd (aN dIsi (aCons (aV 0) (aCons (aC (.op (.ty "int"))) aNil))) (vAnd (a2 (dEq false) (aN dIsi (aCons (aV 0) (aCons (aC (.op (.ty "bool"))) aNil))) (aN dIsi (aCons (aV 1) (aCons (aC (.op (.ty "bool"))) aNil)))) (a2 (dEq false) (aV 0) (aV 1)))))))
def G__law_alike : Nat → List Cell → RS D
  | 0 => fun _ => .stuck
  | n + 1 => fnF 3 (g__law_alike (G__law_alike n))
def F__law_alike : List Cell → RS D := G__law_alike 60
def g__law_tells : GS := (gSeq (gIf (cOr (cB (a2 (dEq true) (aLst (aComp [4] (aI (aV 3)) (tgN 4) (cB (a2 (dCmpI (fun i j => decide (i < j))) (aV 4) (aC (.int 1)))) (aV 4))) (aLst (fLst aNil)))) (cB (a2 (dCmpI (fun i j => decide (j ≤ i))) (aN dSum (aCons (aV 3) aNil)) (aCall 2 F__law_order (aCons (aV 0) (aCons (aV 2) aNil)))))) (gRet (aC (.bl false))) gNext)
    (gRet (a2 (dEq false) (aN dTuple (aCons (aLst (aComp [4] (aI (aV 3)) (tgN 4) cYes (aCall 3 F__law_times (aCons (aV 0) (aCons (aV 2) (aCons (aV 4) aNil)))))) aNil)) (aN dTuple (aCons (aV 1) aNil)))))
def F__law_tells : List Cell → RS D := fnF 5 g__law_tells
def g_size : GS := (gSeq (gDrop (aCall 1 F_need_wheels (aCons (aV 0) aNil)))
    (gRet (aCall 1 F_size_of (aCons (aV 0) aNil))))
def F_size : List Cell → RS D := fnF 1 g_size
def g__law_sums : GS := (gSeq (gSet 2 (aLst (fLst aNil)))
    (gSeq (gFor (aI (aV 1)) (tgN 3) (gSet 2 (aLst (aSS (a2 dAdd (a2 dAdd (aV 2) (aLst (fLst (aCons (aV 3) aNil)))) (aLst (aComp [4] (aI (aV 2)) (tgN 4) cYes (aCall 3 F__law_added (aCons (aV 0) (aCons (aV 4) (aCons (aV 3) aNil)))))))))))
    (gRet (aV 2))))
def F__law_sums : List Cell → RS D := fnF 5 g__law_sums
def g__law_total : GS := (gSeq (gSet 2 (aCall 1 F__law_home (aCons (aV 0) aNil)))
    (gSeq (gFor (aI (aV 1)) (tgN 3) (gSet 2 (aCall 3 F__law_added (aCons (aV 0) (aCons (aV 2) (aCons (aV 3) aNil))))))
    (gRet (aV 2))))
def F__law_total : List Cell → RS D := fnF 4 g__law_total
def g__law_lots : GS := (gSeq (gSet 1 (aLst (fLst (aCons (aN dTup aNil) aNil))))
    (gSeq (gFor (aIN opRange1 (aCons (aV 0) aNil)) (tgN 2) (gSet 1 (a2 dAdd (aV 1) (aLst (aComp [3] (aI (aV 1)) (tgN 3) cYes (a2 dAdd (aV 3) (aN dTup (aCons (aV 2) aNil))))))))
    (gRet (aV 1))))
def F__law_lots : List Cell → RS D := fnF 4 g__law_lots
def g__law_lists : GS := (gSeq (gSet 2 (aLst (fLst (aCons (aN dTup aNil) aNil))))
    (gSeq (gFor (aIN opRange1 (aCons (aV 1) aNil)) (tgN 3) (gSeq (gSet 4 (aLst (fLst aNil)))
    (gSeq (gFor (aI (aV 2)) (tgN 5) (gSet 4 (a2 dAdd (aV 4) (aLst (aComp [6] (aI (aV 0)) (tgN 6) (cOr (cB (a2 (dEq false) (aV 5) (aN dTup aNil))) (cB (a2 dGeD (aV 6) (a2 dIx (aV 5) (a1 dNeg (aC (.int 1))))))) (a2 dAdd (aV 5) (aN dTup (aCons (aV 6) aNil))))))))
    (gSet 2 (aV 4)))))
    (gRet (aV 2))))
def F__law_lists : List Cell → RS D := fnF 7 g__law_lists
def g__law_is_round : GS := (gSeq (gIf (cOr (cB (a2 (dEq false) (aN dLen (aCons (aV 1) aNil)) (aC (.int 0)))) (cB (a2 (dEq true) (aCall 2 F__law_total (aCons (aV 0) (aCons (aV 1) aNil))) (aCall 1 F__law_home (aCons (aV 0) aNil))))) (gRet (aC (.bl false))) gNext)
    (gRet (a2 (dIn true) (aCall 1 F__law_home (aCons (aV 0) aNil)) (aCall 2 F__law_sums (aCons (aV 0) (aCons (aSl (aV 1) none (some (a1 dNeg (aC (.int 1))))) aNil))))))
def F__law_is_round : List Cell → RS D := fnF 2 g__law_is_round
def g__law_partitions (R : List Cell → RS D) : GS := (gSeq (gIf (cB (a2 (dEq false) (aV 0) (aC (.int 0)))) (gRet (aC (.int 1))) gNext)
    (gSeq (gSet 2 (aC (.int 0)))
    (gSeq (gFor (aIN opRange2 (aCons (aC (.int 1)) (aCons (a2 dAdd (aN dMin2 (aCons (aV 0) (aCons (aV 1) aNil))) (aC (.int 1))) aNil))) (tgN 3) (gSet 2 (a2 dAdd (aV 2) (aCall 2 R (aCons (a2 dSub (aV 0) (aV 3)) (aCons (aV 3) aNil))))))
    (gRet (aV 2)))))
def G__law_partitions : Nat → List Cell → RS D
  | 0 => fun _ => .stuck
  | n + 1 => fnF 4 (g__law_partitions (G__law_partitions n))
def F__law_partitions : List Cell → RS D := G__law_partitions 60
end RD
end
section
set_option Elab.async false
set_option linter.all false
set_option maxRecDepth 100000
set_option maxHeartbeats 2000000
namespace DL
open PySem PySem.Spec PyProof.Rows L2
/-! ### steps: tuples of ints -/
abbrev T (xs : List Int) : D := .tup (xs.map .int)
structure Sh (n : Nat) (d : D) : Prop where
  ok : d.okp = true
  lay : d.py.canLay0 = true
  dep : d.py.depth ≤ n
theorem Sh.sh {n : Nat} {d : D} (h : Sh n d) (hn : n ≤ 64) : d.sh = true := by
  unfold D.sh SeqAt.shaped
  rw [h.ok, h.lay, decide_eq_true (Nat.le_trans h.dep hn)]
  rfl
theorem Sh.mono {n m : Nat} {d : D} (h : Sh n d) (hn : n ≤ m) : Sh m d := ⟨h.ok, h.lay, Nat.le_trans h.dep hn⟩
theorem sh_int {i : Int} : Sh 0 (.int i) := ⟨rfl, rfl, Nat.le_refl _⟩
theorem sh_bl {i : Bool} : Sh 0 (.bl i) := ⟨rfl, rfl, Nat.le_refl _⟩
theorem sh_non : Sh 0 .non := ⟨rfl, rfl, Nat.le_refl _⟩
theorem shs {n : Nat} : ∀ {xs : List D}, (∀ x ∈ xs, Sh n x) → D.okps xs = true ∧ PyData.canLayAll0 (D.pys xs) = true ∧ PyData.depthAll (D.pys xs) ≤ n
  | [], _ => ⟨rfl, rfl, Nat.zero_le _⟩
  | x :: xs, h => by
    obtain ⟨h1, h2, h3⟩ := shs (xs := xs) fun y hy => h y (List.mem_cons_of_mem _ hy)
    have hx := h x List.mem_cons_self
    refine ⟨?_, ?_, ?_⟩
    · rw [D.okps, hx.ok, h1]; rfl
    · rw [D.pys, PyData.canLayAll0, hx.lay, h2]; rfl
    · rw [D.pys, PyData.depthAll]; exact Nat.max_le.mpr ⟨hx.dep, h3⟩
theorem sh_tup {n : Nat} {xs : List D} (h : ∀ x ∈ xs, Sh n x) : Sh (n + 1) (.tup xs) := by
  obtain ⟨h1, h2, h3⟩ := shs h
  exact ⟨by rw [D.okp]; exact h1, by rw [D.py, PyData.canLay0]; exact h2, by rw [D.py, PyData.depth]; omega⟩
theorem sh_lst {n : Nat} {xs : List D} (h : ∀ x ∈ xs, Sh n x) : Sh (n + 1) (.lst xs) := by
  obtain ⟨h1, h2, h3⟩ := shs h
  exact ⟨by rw [D.okp]; exact h1, by rw [D.py, PyData.canLay0]; exact h2, by rw [D.py, PyData.depth]; omega⟩
theorem sh_T (xs : List Int) : Sh 1 (T xs) := sh_tup fun x hx => by
  obtain ⟨i, _, rfl⟩ := List.mem_map.mp hx
  exact sh_int
theorem pys_ints : ∀ xs : List Int, D.pys (xs.map .int) = xs.map .int
  | [] => rfl
  | x :: xs => by rw [List.map_cons, D.pys, pys_ints xs]; rfl
theorem eqvAll_ints : ∀ xs ys : List Int, PyData.eqvAll (xs.map .int) (ys.map .int) = decide (xs = ys)
  | [], [] => rfl
  | [], _ :: _ => rfl
  | _ :: _, [] => rfl
  | x :: xs, y :: ys => by
    rw [List.map_cons, List.map_cons, PyData.eqvAll, eqvAll_ints xs ys]
    show (PyData.eqv (.int x) (.int y) && _) = _
    have : PyData.eqv (.int x) (.int y) = decide (x = y) := by
      rw [PyData.eqv]
      by_cases h : x = y
      · rw [h, decide_eq_true rfl]; simp
      · rw [decide_eq_false h]; simp [h]
    rw [this]
    by_cases h : x = y
    · subst h; simp
    · rw [decide_eq_false h, decide_eq_false (fun z => h (List.cons.inj z).1)]; rfl
theorem eqv_T (xs ys : List Int) : PyData.eqv (T xs).py (T ys).py = decide (xs = ys) := by
  rw [D.py, D.py, pys_ints, pys_ints, PyData.eqv, eqvAll_ints]
theorem dEq_T (neg : Bool) (xs ys : List Int) : dEq neg (T xs) (T ys) = some (.bl (xor neg (decide (xs = ys)))) := by
  unfold dEq
  rw [if_pos ⟨(sh_T _).sh (by omega), (sh_T _).sh (by omega)⟩, eqv_T]
theorem dEq_int (neg : Bool) (x y : Int) : dEq neg (.int x) (.int y) = some (.bl (xor neg (decide (x = y)))) := by
  unfold dEq
  rw [if_pos ⟨sh_int.sh (by omega), sh_int.sh (by omega)⟩]
  have : PyData.eqv (D.int x).py (D.int y).py = decide (x = y) := by
    rw [D.py, D.py, PyData.eqv]
    by_cases h : x = y
    · rw [h, decide_eq_true rfl]; simp
    · rw [decide_eq_false h]; simp [h]
  rw [this]
theorem dEq_nil (neg : Bool) {xs : List D} {n : Nat} (h : ∀ x ∈ xs, Sh n x) (hn : n < 64) : dEq neg (.lst xs) (.lst []) = some (.bl (xor neg (decide (xs = [])))) := by
  unfold dEq
  rw [if_pos ⟨(sh_lst h).sh hn, by decide +kernel⟩]
  have : PyData.eqv (D.lst xs).py (D.lst []).py = decide (xs = []) := by
    rw [D.py, D.py, PyData.eqv]
    cases xs with
    | nil => rfl
    | cons x xs => rw [D.pys, decide_eq_false (by simp)]; rfl
  rw [this]
theorem dEq_nilT (neg : Bool) {xs : List D} {n : Nat} (h : ∀ x ∈ xs, Sh n x) (hn : n < 64) : dEq neg (.tup xs) (.tup []) = some (.bl (xor neg (decide (xs = [])))) := by
  unfold dEq
  rw [if_pos ⟨(sh_tup h).sh hn, by decide +kernel⟩]
  have : PyData.eqv (D.tup xs).py (D.tup []).py = decide (xs = []) := by
    rw [D.py, D.py, PyData.eqv]
    cases xs with
    | nil => rfl
    | cons x xs => rw [D.pys, decide_eq_false (by simp)]; rfl
  rw [this]
theorem dEq_bl (neg : Bool) (x y : Bool) : dEq neg (.bl x) (.bl y) = some (.bl (xor neg (decide (x = y)))) := by
  cases neg <;> cases x <;> cases y <;> rfl

/-! ### walks over lists -/
section
variable {vs : List Nat} {fi : Act (List D)} {t : Tg} {c : Act Bool} {f : Act D} {ρ ρ1 : DEnv} {ds : List D}
theorem cGo_filter (p : D → Bool) (g : D → D) : ∀ (ds acc : List D), (∀ d ∈ ds, ∃ ρ2, t d ρ1 = some ρ2 ∧ c ρ2 = .ok (p d) ρ2 ∧ (p d = true → f ρ2 = .ok (g d) ρ2) ∧ wipeD ρ2 vs = ρ1) → acc.length + ds.length ≤ 16000000 →
    cGo t c f vs ds acc ρ1 = .ok (acc ++ (ds.filter p).map g) ρ1
  | [], acc, _, _ => by simp [cGo]
  | d :: ds, acc, h, hl => by
    obtain ⟨ρ2, e1, e2, e3, e4⟩ := h d List.mem_cons_self
    rw [List.length_cons] at hl
    unfold cGo
    simp only [e1, e2]
    cases hp : p d with
    | true =>
      simp only [e3 hp]
      rw [if_pos (by omega), e4, cGo_filter p g ds (acc ++ [g d]) (fun x hx => h x (List.mem_cons_of_mem _ hx)) (by simp; omega)]
      simp [hp]
    | false =>
      simp only [e4]
      rw [cGo_filter p g ds acc (fun x hx => h x (List.mem_cons_of_mem _ hx)) (by omega)]
      simp [hp]
theorem to_filter (p : D → Bool) (g : D → D) (hfi : To fi ρ ds ρ1) (hw : wipeD ρ1 vs = ρ1) (hl : ds.length ≤ 16000000) (h : ∀ d ∈ ds, ∃ ρ2, t d ρ1 = some ρ2 ∧ c ρ2 = .ok (p d) ρ2 ∧ (p d = true → f ρ2 = .ok (g d) ρ2) ∧ wipeD ρ2 vs = ρ1) :
    To (aComp vs fi t c f) ρ ((ds.filter p).map g) ρ1 := to_bind hfi (by
  show cGo t c f vs ds [] (wipeD ρ1 vs) = _
  rw [hw, cGo_filter p g ds [] h (by simpa using hl)]
  rfl)
theorem to_map (g : D → D) (hfi : To fi ρ ds ρ1) (hw : wipeD ρ1 vs = ρ1) (hl : ds.length ≤ 16000000) (h : ∀ d ∈ ds, ∃ ρ2, t d ρ1 = some ρ2 ∧ f ρ2 = .ok (g d) ρ2 ∧ wipeD ρ2 vs = ρ1) :
    To (aComp vs fi t cYes f) ρ (ds.map g) ρ1 := by
  have := to_filter (c := cYes) (fun _ => true) g hfi hw hl fun d hd => let ⟨ρ2, a, b, e⟩ := h d hd; ⟨ρ2, a, rfl, fun _ => b, e⟩
  rwa [List.filter_eq_self.mpr (fun _ _ => rfl)] at this
/-- elements that also change the slots -/
theorem cGo_rel (I : DEnv → Prop) (Y : D → Prop) : ∀ (ds acc : List D) (ρ : DEnv), (∀ d ∈ ds, ∀ ρ, I ρ → ∃ ρ2 y ρ3, t d ρ = some ρ2 ∧ f ρ2 = .ok y ρ3 ∧ Y y ∧ I (wipeD ρ3 vs)) → acc.length + ds.length ≤ 16000000 → I ρ →
    ∃ ys ρ', cGo t cYes f vs ds acc ρ = .ok (acc ++ ys) ρ' ∧ ys.length = ds.length ∧ (∀ y ∈ ys, Y y) ∧ I ρ'
  | [], acc, ρ, _, _, hi => ⟨[], ρ, by simp [cGo], rfl, (fun y hy => by cases hy), hi⟩
  | d :: ds, acc, ρ, h, hl, hi => by
    obtain ⟨ρ2, y, ρ3, e1, e2, hy, hi2⟩ := h d List.mem_cons_self ρ hi
    rw [List.length_cons] at hl
    obtain ⟨ys, ρ', e3, h1, h2, h3⟩ := cGo_rel I Y ds (acc ++ [y]) (wipeD ρ3 vs) (fun x hx => h x (List.mem_cons_of_mem _ hx)) (by simp; omega) hi2
    refine ⟨y :: ys, ρ', ?_, by simp [h1], ?_, h3⟩
    · unfold cGo
      simp only [e1, e2]
      rw [if_pos (by omega), e3]
      simp
    · intro z hz
      rcases List.mem_cons.mp hz with rfl | hz
      · exact hy
      · exact h2 z hz
theorem to_rel (I : DEnv → Prop) (Y : D → Prop) (hfi : To fi ρ ds ρ1) (hl : ds.length ≤ 16000000) (hi : I (wipeD ρ1 vs)) (h : ∀ d ∈ ds, ∀ ρ, I ρ → ∃ ρ2 y ρ3, t d ρ = some ρ2 ∧ f ρ2 = .ok y ρ3 ∧ Y y ∧ I (wipeD ρ3 vs)) :
    ∃ ys ρ', To (aComp vs fi t cYes f) ρ ys ρ' ∧ ys.length = ds.length ∧ (∀ y ∈ ys, Y y) ∧ I ρ' := by
  obtain ⟨ys, ρ', e, h1, h2, h3⟩ := cGo_rel I Y ds [] (wipeD ρ1 vs) h (by simpa using hl) hi
  exact ⟨ys, ρ', to_bind hfi e, h1, h2, h3⟩
end
section
variable {α β : Type} {t : Tg} {g : GS} {fi : Act (List D)}
theorem for_fold (S : α → β → DEnv) (I : α → Prop) (F : α → D → α) : ∀ (ds : List D) (a : α) (o : β), I a → (∀ d ∈ ds, ∀ a o, I a → I (F a d) ∧ ∃ ρ2 o', t d (S a o) = some ρ2 ∧ g ρ2 = .nx (S (F a d) o')) → ∃ o', gForL t g ds (S a o) = .nx (S (ds.foldl F a) o')
  | [], a, o, _, _ => ⟨o, rfl⟩
  | d :: ds, a, o, ha, h => by
    obtain ⟨hb, ρ2, o1, e1, e2⟩ := h d List.mem_cons_self a o ha
    obtain ⟨o', e3⟩ := for_fold S I F ds (F a d) o1 hb fun x hx => h x (List.mem_cons_of_mem _ hx)
    refine ⟨o', ?_⟩
    unfold gForL
    simp only [e1, e2]
    exact e3
/-- a loop with an invariant by place -/
theorem for_inv (I : List D → DEnv → Prop) : ∀ (ds : List D) (ρ : DEnv), (∀ d rest, ∀ ρ, I (d :: rest) ρ → ∃ ρ2 ρ3, t d ρ = some ρ2 ∧ g ρ2 = .nx ρ3 ∧ I rest ρ3) → I ds ρ → ∃ ρ', gForL t g ds ρ = .nx ρ' ∧ I [] ρ'
  | [], ρ, _, hi => ⟨ρ, rfl, hi⟩
  | d :: ds, ρ, h, hi => by
    obtain ⟨ρ2, ρ3, e1, e2, hi2⟩ := h d ds ρ hi
    obtain ⟨ρ', e3, h3⟩ := for_inv I ds ρ3 h hi2
    refine ⟨ρ', ?_, h3⟩
    unfold gForL
    simp only [e1, e2]
    exact e3
theorem st_for {ρ ρ1 ρ2 : DEnv} {ds : List D} {h : GS} {o : Out} (hfi : To fi ρ ds ρ1) (e : gForL t g ds ρ1 = .nx ρ2) (k : h ρ2 = o) : gSeq (gFor fi t g) h ρ = o := by
  unfold To at hfi
  unfold gSeq gFor gOf
  rw [hfi]
  dsimp only
  rw [e]
  exact k
def itr (F : α → α) : Nat → α → α
  | 0, a => a
  | n + 1, a => itr F n (F a)
theorem wh_iter {c : Act Bool} (S : α → β → DEnv) (I : α → Prop) (p : α → Bool) (F : α → α) (hc : ∀ a o, I a → c (S a o) = .ok (p a) (S a o)) (hg : ∀ a o, I a → p a = true → I (F a) ∧ ∃ o', g (S a o) = .nx (S (F a) o')) : ∀ (k n : Nat) (a : α) (o : β), I a → k < n → (∀ i, i < k → p (itr F i a) = true) → p (itr F k a) = false → ∃ o', gWh c g n (S a o) = .nx (S (itr F k a) o')
  | 0, n + 1, a, o, ha, _, _, h2 => ⟨o, by
      unfold gWh
      have h3 : p a = false := h2
      rw [hc a o ha, h3]
      rfl⟩
  | k + 1, n + 1, a, o, ha, hk, h1, h2 => by
    have h0 : p a = true := h1 0 (Nat.zero_lt_succ _)
    obtain ⟨hb, o1, e1⟩ := hg a o ha h0
    obtain ⟨o', e2⟩ := wh_iter S I p F hc hg k n (F a) o1 hb (by omega) (fun i hi => h1 (i + 1) (by omega)) h2
    refine ⟨o', ?_⟩
    unfold gWh
    rw [hc a o ha, h0]
    simp only [e1]
    exact e2
theorem st_wh {c : Act Bool} {n : Nat} {ρ ρ2 : DEnv} {h : GS} {o : Out} (e : gWh c g n ρ = .nx ρ2) (k : h ρ2 = o) : gSeq (gWh c g n) h ρ = o := by
  unfold gSeq
  rw [e]
  exact k
end
end DL
end
section
set_option Elab.async false
set_option linter.all false
set_option maxRecDepth 100000
set_option maxHeartbeats 2000000
namespace DL
open PySem PySem.Spec PyProof.Rows L2
/-! ### wheels, steps -/
structure Wh (ws : List Int) : Prop where
  len : ws.length ≤ 3
  ge : ∀ w ∈ ws, 2 ≤ w ∧ w ≤ 400
theorem Wh.nz {ws : List Int} (h : Wh ws) : ∀ w ∈ ws, w ≠ 0 := fun w hw => by have := h.ge w hw; omega
def pHome (ws : List Int) : List Int := List.replicate ws.length 0
def pAdd : List Int → List Int → List Int → List Int
  | w :: ws, a :: as, b :: bs => (a + b).fmod w :: pAdd ws as bs
  | _, _, _ => []
def pTimes (ws ss : List Int) (n : Int) : List Int := timesD ws ss n
theorem pTimes_cons {w s n : Int} {ws ss : List Int} : pTimes (w :: ws) (s :: ss) n = (s * n).fmod w :: pTimes ws ss n := rfl
theorem zip3_map : ∀ as bs ws : List Int, zip3R (as.map .int) (bs.map .int) (ws.map .int) = ((as.zip (bs.zip ws)).map fun p => D.tup [.int p.1, .int p.2.1, .int p.2.2])
  | [], _, _ => by simp [zip3R]
  | _ :: _, [], _ => by simp [zip3R]
  | _ :: _, _ :: _, [] => by simp [zip3R]
  | a :: as, b :: bs, w :: ws => by
    simp only [List.map_cons, zip3R, List.zip_cons_cons, zip3_map as bs ws]
theorem zip2_map : ∀ as ws : List Int, zip2R (as.map .int) (ws.map .int) = ((as.zip ws).map fun p => D.tup [.int p.1, .int p.2])
  | [], _ => by simp [zip2R]
  | _ :: _, [] => by simp [zip2R]
  | a :: as, w :: ws => by
    simp only [List.map_cons, zip2R, List.zip_cons_cons, zip2_map as ws]
theorem pAdd_zip : ∀ ws as bs : List Int, ((as.zip (bs.zip ws)).map fun p => D.int ((p.1 + p.2.1).fmod p.2.2)) = (pAdd ws as bs).map .int
  | [], [], _ => rfl
  | [], _ :: _, [] => rfl
  | [], _ :: _, _ :: _ => rfl
  | _ :: _, [], _ => rfl
  | _ :: _, _ :: _, [] => rfl
  | w :: ws, a :: as, b :: bs => by
    rw [List.zip_cons_cons, List.zip_cons_cons, List.map_cons, pAdd_zip ws as bs]
    rfl
theorem pTimes_zip (n : Int) : ∀ ws ss : List Int, ((ss.zip ws).map fun p => D.int ((p.1 * n).fmod p.2)) = (pTimes ws ss n).map .int
  | [], [] => rfl
  | [], _ :: _ => rfl
  | _ :: _, [] => rfl
  | w :: ws, s :: ss => by
    rw [List.zip_cons_cons, List.map_cons, pTimes_zip n ws ss]
    rfl
theorem mod_ne {i j : Int} (h : j ≠ 0) : dMod (.int i) (.int j) = some (.int (i.fmod j)) := by unfold dMod; exact if_pos h
theorem dLen_T (xs : List Int) : dLen [T xs] = some (.int xs.length) := by show some (D.int ((xs.map D.int).length : Nat)) = _; rw [List.length_map]
theorem home_eq {ws : List Int} (h : ws.length ≤ 1000000) : RD.F_home [.d (T ws)] = .ok (T (pHome ws)) [some (.d (T ws))] := by
  unfold RD.F_home RD.g_home
  refine fn_ok (ρ := [some (.d (T ws))]) rfl (st_last (st_ret ?_))
  refine to_N (to_cons (to_2 (x := .lst [.int 0]) (y := .int ws.length) (d := .lst ((pHome ws).map .int)) (to_bind (to_bind (to_cons to_C to_nil) (to_lift rfl)) rfl) (to_N (to_cons (to_V rfl) to_nil) (dLen_T ws)) ?_) to_nil) rfl
  unfold dMul2 dMul pHome
  dsimp only
  rw [if_pos ⟨by omega, by omega, by simp; omega⟩]
  simp
theorem added_eq {ws as bs : List Int} (hw : ∀ w ∈ ws, w ≠ 0) (hl : ws.length ≤ 1000000) : RD.F_added [.d (T ws), .d (T as), .d (T bs)] = .ok (T (pAdd ws as bs)) [some (.d (T ws)), some (.d (T as)), some (.d (T bs)), none, none, none] := by
  unfold RD.F_added RD.g_added
  refine fn_ok (ρ := [some (.d (T ws)), some (.d (T as)), some (.d (T bs)), none, none, none]) rfl (st_last (st_ret ?_))
  refine to_N (to_cons (to_bind (x := (pAdd ws as bs).map .int) ?_ rfl) to_nil) rfl
  rw [← pAdd_zip]
  have hz : zip3R (as.map .int) (bs.map .int) (ws.map .int) = _ := zip3_map as bs ws
  have key := to_map (vs := [3, 4, 5]) (t := tgT 3 (tgCons (tgN 3) (tgCons (tgN 4) (tgCons (tgN 5) tgNil)))) (f := a2 dMod (a2 dAdd (aV 3) (aV 4)) (aV 5)) (ρ := [some (.d (T ws)), some (.d (T as)), some (.d (T bs)), none, none, none]) (ρ1 := [some (.d (T ws)), some (.d (T as)), some (.d (T bs)), none, none, none])
    (fi := aIN opZip3 (aCons (aV 1) (aCons (aV 2) (aCons (aV 0) aNil)))) (ds := (as.zip (bs.zip ws)).map fun p => D.tup [.int p.1, .int p.2.1, .int p.2.2])
    (fun d => match d with | .tup [.int a, .int b, .int w] => .int ((a + b).fmod w) | _ => .non)
    (to_bind (to_cons (to_V rfl) (to_cons (to_V rfl) (to_cons (to_V rfl) to_nil))) (to_lift (by rw [← hz]; rfl))) rfl (by
      rw [List.length_map, List.length_zip, List.length_zip]
      omega) (fun d hd => by
      obtain ⟨⟨a, b, w⟩, hp, rfl⟩ := List.mem_map.mp hd
      have hw' : w ≠ 0 := hw w (List.of_mem_zip (List.of_mem_zip hp).2).2
      exact ⟨[some (.d (T ws)), some (.d (T as)), some (.d (T bs)), some (.d (.int a)), some (.d (.int b)), some (.d (.int w))], rfl, to_2 (to_2 (to_V (d := .int a) rfl) (to_V (d := .int b) rfl) (d := .int (a + b)) rfl) (to_V (d := .int w) rfl) (mod_ne hw'), rfl⟩)
  rw [List.map_map] at key
  exact key
theorem times_eq {ws ss : List Int} {n : Int} (hw : ∀ w ∈ ws, w ≠ 0) (hl : ws.length ≤ 1000000) (hs : ∀ s ∈ ss, -(2 ^ 64) < s ∧ s < 2 ^ 64) : RD.F_times [.d (T ws), .d (T ss), .d (.int n)] = .ok (T (pTimes ws ss n)) [some (.d (T ws)), some (.d (T ss)), some (.d (.int n)), none, none] := by
  unfold RD.F_times RD.g_times
  refine fn_ok (ρ := [some (.d (T ws)), some (.d (T ss)), some (.d (.int n)), none, none]) rfl (st_last (st_ret ?_))
  refine to_N (to_cons (to_bind (x := (pTimes ws ss n).map .int) ?_ rfl) to_nil) rfl
  rw [← pTimes_zip]
  have hz : zip2R (ss.map .int) (ws.map .int) = _ := zip2_map ss ws
  have key := to_map (vs := [3, 4]) (t := tgT 2 (tgCons (tgN 3) (tgCons (tgN 4) tgNil))) (f := a2 dMod (a2 dMul2 (aV 3) (aV 2)) (aV 4)) (ρ := [some (.d (T ws)), some (.d (T ss)), some (.d (.int n)), none, none]) (ρ1 := [some (.d (T ws)), some (.d (T ss)), some (.d (.int n)), none, none])
    (fi := aIN opZip2 (aCons (aV 1) (aCons (aV 0) aNil))) (ds := (ss.zip ws).map fun p => D.tup [.int p.1, .int p.2])
    (fun d => match d with | .tup [.int a, .int w] => .int ((a * n).fmod w) | _ => .non)
    (to_bind (to_cons (to_V rfl) (to_cons (to_V rfl) to_nil)) (to_lift (by rw [← hz]; rfl))) rfl (by
      rw [List.length_map, List.length_zip]
      omega) (fun d hd => by
      obtain ⟨⟨a, w⟩, hp, rfl⟩ := List.mem_map.mp hd
      have hw' : w ≠ 0 := hw w (List.of_mem_zip hp).2
      have ha := hs a (List.of_mem_zip hp).1
      exact ⟨[some (.d (T ws)), some (.d (T ss)), some (.d (.int n)), some (.d (.int a)), some (.d (.int w))], rfl, to_2 (to_2 (to_V (d := .int a) rfl) (to_V (d := .int n) rfl) (d := .int (a * n)) (by show dMul (.int a) (.int n) = _; unfold dMul; exact if_pos ha)) (to_V (d := .int w) rfl) (mod_ne hw'), rfl⟩)
  rw [List.map_map] at key
  exact key
end DL
end
section
set_option Elab.async false
set_option linter.all false
set_option maxRecDepth 100000
set_option maxHeartbeats 2000000
namespace DL
open PySem PySem.Spec PyProof.Rows L2
theorem upTo_range : ∀ (n : Nat) (a : Int), upTo a n = (List.range n).map fun i => D.int (a + (i : Nat))
  | 0, _ => rfl
  | n + 1, a => by
    rw [upTo, upTo_range n (a + 1), List.range_succ_eq_map, List.map_cons, List.map_map]
    congr 1
    · simp
    · apply List.map_congr_left
      intro i _
      show D.int _ = D.int _
      congr 1
      push_cast
      omega
theorem atI_nat {α : Type} {xs : List α} {i : Nat} (h : i < xs.length) : atI xs (i : Int) = xs[i]? := by
  unfold atI ixN
  rw [if_pos (by omega), if_pos (by omega)]
  show xs[((i : Int)).toNat]? = _
  rw [Int.toNat_natCast]
theorem dIx_tup {xs : List D} {i : Nat} {d : D} (h : xs[i]? = some d) : dIx (.tup xs) (.int i) = some d := by
  show atI xs i = _
  rw [atI_nat (List.getElem?_eq_some_iff.mp h).1, h]
theorem dIx_lst {xs : List D} {i : Nat} {d : D} (h : xs[i]? = some d) : dIx (.lst xs) (.int i) = some d := by
  show atI xs i = _
  rw [atI_nat (List.getElem?_eq_some_iff.mp h).1, h]
theorem dIx_T {xs : List Int} {i : Nat} {x : Int} (h : xs[i]? = some x) : dIx (T xs) (.int i) = some (.int x) := dIx_tup (by rw [List.getElem?_map, h]; rfl)
theorem range1_nat {n : Nat} (h : n ≤ 1000000) : opRange1 [.int (n : Nat)] = some ((List.range n).map fun i => D.int (i : Nat)) := by
  unfold opRange1
  dsimp only
  rw [if_pos ⟨by omega, by omega⟩, Int.toNat_natCast, upTo_range]
  simp
theorem pAdd_get : ∀ {ws as bs : List Int} {i : Nat} {w a b : Int}, ws[i]? = some w → as[i]? = some a → bs[i]? = some b → (pAdd ws as bs)[i]? = some ((a + b).fmod w)
  | w :: ws, a :: as, b :: bs, 0, _, _, _, h1, h2, h3 => by simp at h1 h2 h3; subst h1 h2 h3; simp [pAdd]
  | w :: ws, a :: as, b :: bs, i + 1, _, _, _, h1, h2, h3 => by
    rw [pAdd, List.getElem?_cons_succ]
    exact pAdd_get (by simpa using h1) (by simpa using h2) (by simpa using h3)
  | [], _, _, _, _, _, _, h, _, _ => by simp at h
  | _ :: _, [], _, _, _, _, _, _, h, _ => by simp at h
  | _ :: _, _ :: _, [], _, _, _, _, _, _, h => by simp at h
theorem pAdd_length : ∀ {ws as bs : List Int}, as.length = ws.length → bs.length = ws.length → (pAdd ws as bs).length = ws.length
  | [], _, _, _, _ => by unfold pAdd; rfl
  | w :: ws, a :: as, b :: bs, h1, h2 => by
    rw [pAdd, List.length_cons, List.length_cons, pAdd_length (by simpa using h1) (by simpa using h2)]
  | _ :: _, [], _, h, _ => by simp at h
  | _ :: _, _ :: _, [], _, h => by simp at h
theorem pTimes_length {ws ss : List Int} {n : Int} (h : ss.length = ws.length) : (pTimes ws ss n).length = ws.length := by
  unfold pTimes timesD
  rw [List.length_zipWith, h, Nat.min_self]
/-- a list by its places -/
theorem range_map_eq {n : Nat} {f : Nat → D} {ys : List Int} (hl : ys.length = n) (h : ∀ i y, ys[i]? = some y → f i = .int y) : (List.range n).map f = ys.map .int := by
  apply List.ext_getElem?
  intro i
  rw [List.getElem?_map, List.getElem?_map]
  by_cases hi : i < n
  · rw [List.getElem?_range hi]
    have e : ys[i]? = some (ys[i]'(by omega)) := List.getElem?_eq_getElem _
    rw [e]
    exact congrArg some (h i _ e)
  · rw [List.getElem?_eq_none (by simp; omega), List.getElem?_eq_none (by omega)]
    rfl
theorem lhome_eq {ws : List Int} (h : ws.length ≤ 1000) : RD.F__law_home [.d (T ws)] = .ok (T (pHome ws)) [some (.d (T ws))] := by
  unfold RD.F__law_home RD.g__law_home
  refine fn_ok (ρ := [some (.d (T ws))]) rfl (st_last (st_ret ?_))
  refine to_2 (x := .tup [.int 0]) (y := .int ws.length) (to_N (to_cons to_C to_nil) rfl) (to_N (to_cons (to_V rfl) to_nil) (dLen_T ws)) ?_
  unfold dMul2 pHome
  dsimp only
  rw [if_pos ⟨by omega, by omega, by simp⟩]
  simp
theorem ladded_eq {ws as bs : List Int} (hw : ∀ w ∈ ws, w ≠ 0) (hl : ws.length ≤ 1000) (ha : as.length = ws.length) (hb : bs.length = ws.length) : RD.F__law_added [.d (T ws), .d (T as), .d (T bs)] = .ok (T (pAdd ws as bs)) [some (.d (T ws)), some (.d (T as)), some (.d (T bs)), none] := by
  unfold RD.F__law_added RD.g__law_added
  refine fn_ok (ρ := [some (.d (T ws)), some (.d (T as)), some (.d (T bs)), none]) rfl (st_last (st_ret ?_))
  refine to_N (to_cons (to_bind (x := (pAdd ws as bs).map .int) ?_ rfl) to_nil) rfl
  have key := to_map (vs := [3]) (t := tgN 3) (f := a2 dMod (a2 dAdd (a2 dIx (aV 1) (aV 3)) (a2 dIx (aV 2) (aV 3))) (a2 dIx (aV 0) (aV 3))) (ρ := [some (.d (T ws)), some (.d (T as)), some (.d (T bs)), none]) (ρ1 := [some (.d (T ws)), some (.d (T as)), some (.d (T bs)), none])
    (fi := aIN opRange1 (aCons (aN dLen (aCons (aV 0) aNil)) aNil)) (ds := (List.range ws.length).map fun i => D.int (i : Nat))
    (fun d => match d with | .int i => .int ((pAdd ws as bs).getD i.toNat 0) | _ => .non)
    (to_bind (to_cons (to_N (to_cons (to_V rfl) to_nil) (dLen_T ws)) to_nil) (to_lift (range1_nat (by omega)))) rfl (by simp; omega) (fun d hd => by
      obtain ⟨i, hi, rfl⟩ := List.mem_map.mp hd
      have hi' := List.mem_range.mp hi
      have e1 : ws[i]? = some (ws[i]'(by omega)) := List.getElem?_eq_getElem _
      have e2 : as[i]? = some (as[i]'(by omega)) := List.getElem?_eq_getElem _
      have e3 : bs[i]? = some (bs[i]'(by omega)) := List.getElem?_eq_getElem _
      refine ⟨[some (.d (T ws)), some (.d (T as)), some (.d (T bs)), some (.d (.int i))], rfl, ?_, rfl⟩
      refine to_2 (to_2 (to_2 (to_V (d := T as) rfl) (to_V (d := .int i) rfl) (dIx_T e2)) (to_2 (to_V (d := T bs) rfl) (to_V (d := .int i) rfl) (dIx_T e3)) (d := .int (as[i]'(by omega) + bs[i]'(by omega))) rfl) (to_2 (to_V (d := T ws) rfl) (to_V (d := .int i) rfl) (dIx_T e1)) ?_
      rw [mod_ne (hw _ (List.mem_of_getElem? e1))]
      show _ = some (D.int ((pAdd ws as bs).getD ((i : Nat) : Int).toNat 0))
      rw [Int.toNat_natCast, List.getD_eq_getElem?_getD, pAdd_get e1 e2 e3]
      rfl)
  rw [List.map_map] at key
  rw [range_map_eq (pAdd_length ha hb) (fun i y hy => by
    show D.int ((pAdd ws as bs).getD ((i : Nat) : Int).toNat 0) = _
    rw [Int.toNat_natCast, List.getD_eq_getElem?_getD, hy]
    rfl)] at key
  exact key
theorem pTimes_get {ws ss : List Int} {n : Int} {i : Nat} {w s : Int} (h1 : ws[i]? = some w) (h2 : ss[i]? = some s) : (pTimes ws ss n)[i]? = some ((s * n).fmod w) := timesD_get h2 h1
theorem ltimes_eq {ws ss : List Int} {n : Int} (hw : ∀ w ∈ ws, w ≠ 0) (hl : ws.length ≤ 1000) (hs : ss.length = ws.length) (hb : ∀ s ∈ ss, -(2 ^ 64) < s ∧ s < 2 ^ 64) : RD.F__law_times [.d (T ws), .d (T ss), .d (.int n)] = .ok (T (pTimes ws ss n)) [some (.d (T ws)), some (.d (T ss)), some (.d (.int n)), none] := by
  unfold RD.F__law_times RD.g__law_times
  refine fn_ok (ρ := [some (.d (T ws)), some (.d (T ss)), some (.d (.int n)), none]) rfl (st_last (st_ret ?_))
  refine to_N (to_cons (to_bind (x := (pTimes ws ss n).map .int) ?_ rfl) to_nil) rfl
  have key := to_map (vs := [3]) (t := tgN 3) (f := a2 dMod (a2 dMul2 (a2 dIx (aV 1) (aV 3)) (aV 2)) (a2 dIx (aV 0) (aV 3))) (ρ := [some (.d (T ws)), some (.d (T ss)), some (.d (.int n)), none]) (ρ1 := [some (.d (T ws)), some (.d (T ss)), some (.d (.int n)), none])
    (fi := aIN opRange1 (aCons (aN dLen (aCons (aV 0) aNil)) aNil)) (ds := (List.range ws.length).map fun i => D.int (i : Nat))
    (fun d => match d with | .int i => .int ((pTimes ws ss n).getD i.toNat 0) | _ => .non)
    (to_bind (to_cons (to_N (to_cons (to_V rfl) to_nil) (dLen_T ws)) to_nil) (to_lift (range1_nat (by omega)))) rfl (by simp; omega) (fun d hd => by
      obtain ⟨i, hi, rfl⟩ := List.mem_map.mp hd
      have hi' := List.mem_range.mp hi
      have e1 : ws[i]? = some (ws[i]'(by omega)) := List.getElem?_eq_getElem _
      have e2 : ss[i]? = some (ss[i]'(by omega)) := List.getElem?_eq_getElem _
      refine ⟨[some (.d (T ws)), some (.d (T ss)), some (.d (.int n)), some (.d (.int i))], rfl, ?_, rfl⟩
      refine to_2 (to_2 (to_2 (to_V (d := T ss) rfl) (to_V (d := .int i) rfl) (dIx_T e2)) (to_V (d := .int n) rfl) (d := .int (ss[i]'(by omega) * n)) (by show dMul (.int _) (.int n) = _; unfold dMul; exact if_pos (hb _ (List.mem_of_getElem? e2)))) (to_2 (to_V (d := T ws) rfl) (to_V (d := .int i) rfl) (dIx_T e1)) ?_
      rw [mod_ne (hw _ (List.mem_of_getElem? e1))]
      show _ = some (D.int ((pTimes ws ss n).getD ((i : Nat) : Int).toNat 0))
      rw [Int.toNat_natCast, List.getD_eq_getElem?_getD, pTimes_get e1 e2]
      rfl)
  rw [List.map_map] at key
  rw [range_map_eq (pTimes_length hs) (fun i y hy => by
    show D.int ((pTimes ws ss n).getD ((i : Nat) : Int).toNat 0) = _
    rw [Int.toNat_natCast, List.getD_eq_getElem?_getD, hy]
    rfl)] at key
  exact key
end DL
end
section
set_option Elab.async false
set_option linter.all false
set_option maxRecDepth 100000
set_option maxHeartbeats 2000000
namespace DL
open PySem PySem.Spec PyProof.Rows L2
theorem taken2 (r : Rw) (m : Int) (hr : r.ok) (h0 : 0 < m) (h1 : m < 1000000000) : ∃ ρ, RD.F__law_taken [r.cell, .d (.int m)] = .ok (.int (r.draw m)) (some (r.next m).cell :: ρ) := by
  obtain ⟨xs, p, sd, rs⟩ := r
  obtain ⟨s1, s2⟩ := hr
  dsimp only at s1 s2
  have hm : ∀ a : Int, dMod (.int a) (.int m) = some (.int (a.fmod m)) := fun a => by unfold dMod; exact if_pos (by omega)
  have hf : ∀ a : Int, dFdiv (.int a) (.int m) = some (.int (a.fdiv m)) := fun a => by unfold dFdiv; exact if_pos ⟨by omega, by omega⟩
  have hmu : dMul2 (.int sd) (.int 48271) = some (.int (sd * 48271)) := by show dMul (.int sd) (.int 48271) = _; unfold dMul; exact if_pos ⟨by omega, by omega⟩
  have hm2 : ∀ a : Int, dMod (.int a) (.int 2147483647) = some (.int (a.fmod 2147483647)) := fun a => rfl
  have hf2 : ∀ a : Int, dFdiv (.int a) (.int 7) = some (.int (a.fdiv 7)) := fun a => rfl
  have hpw : dPow (.int 10) (.int 18) = some (.int (10 ^ 18)) := rfl
  unfold RD.F__law_taken RD.g__law_taken Rw.cell Rw.draw Rw.next
  by_cases c1 : 0 < rs
  · simp only [if_pos c1]
    refine ⟨[some (.d (.int m)), some (.d (.int (rs.fmod m))), none], fn_ok (ρ := [some (.l [.lst (xs.map .int), .int p, .int sd, .int rs]), some (.d (.int m)), none, none]) rfl ?_⟩
    refine st_if_t (to_cB (to_2 (x := .int rs) (y := .int 0) (to_ixO rfl to_C rfl) to_C (by show some (D.bl (decide (0 < rs))) = _; rw [decide_eq_true c1]))) ?_
    refine st_assoc (st_set (to_2 (to_N (to_cons (to_ixO (d := .int rs) rfl to_C rfl) to_nil) rfl) (to_V (d := .int m) rfl) (hm rs)) ?_)
    refine st_assoc (st_setI (to_2 (to_ixO (d := .int rs) rfl to_C rfl) (to_V (d := .int m) rfl) (hf rs)) rfl to_C rfl (j := 3) rfl ?_)
    exact st_ret (to_V rfl)
  · simp only [if_neg c1]
    refine ⟨?ρ, fn_ok (ρ := [some (.l [.lst (xs.map .int), .int p, .int sd, .int rs]), some (.d (.int m)), none, none]) rfl ?_⟩
    case ρ => exact match xs[p]? with
      | some c => [some (.d (.int m)), none, some (.d (.int c))]
      | none => [some (.d (.int m)), none, none]
    refine st_if_f (to_cB (to_2 (x := .int rs) (y := .int 0) (to_ixO rfl to_C rfl) to_C (by show some (D.bl (decide (0 < rs))) = _; rw [decide_eq_false c1]))) (st_next ?_)
    refine st_setI (to_2 (to_ixO (d := .int p) rfl to_C rfl) to_C (d := .int (p + 1)) rfl) rfl to_C rfl (j := 1) rfl ?_
    have hl : dLen [.lst (xs.map .int)] = some (.int xs.length) := by show some (D.int ((xs.map D.int).length : Nat)) = _; rw [List.length_map]
    by_cases c2 : p < xs.length
    · have e : xs[p]? = some xs[p] := List.getElem?_eq_getElem c2
      rw [e]
      dsimp only
      refine st_if_f (to_cB (to_2 (x := .int (p + 1)) (y := .int xs.length) (to_ixO rfl to_C rfl) (to_N (to_cons (to_ixO (d := .lst (xs.map .int)) rfl to_C rfl) to_nil) hl) (by show some (D.bl (decide (((xs.length : Nat) : Int) < (p : Int) + 1))) = _; rw [decide_eq_false (by omega)]))) (st_next ?_)
      refine st_set (d := .int xs[p]) (to_2 (to_ixO (d := .lst (xs.map .int)) rfl to_C rfl) (to_2 (to_ixO (d := .int (p + 1)) rfl to_C rfl) to_C (d := .int p) (by show some (D.int ((p : Int) + 1 - 1)) = _; rw [Int.add_sub_cancel])) ?_) ?_
      · show atI (xs.map D.int) (p : Int) = _
        unfold atI ixN
        rw [List.length_map, if_pos (by omega), if_pos (by omega)]
        show (xs.map D.int)[((p : Int)).toNat]? = _
        rw [Int.toNat_natCast, List.getElem?_map, e]
        rfl
      refine st_setI (to_2 (to_N (to_cons (to_2 (to_2 (to_2 (to_ixO (d := .int sd) rfl to_C rfl) to_C hmu) (to_V (d := .int xs[p]) rfl) (d := .int (sd * 48271 + xs[p])) rfl) to_C (d := .int (sd * 48271 + xs[p] + 11)) rfl) to_nil) (d := .int (sd * 48271 + xs[p] + 11)) rfl) to_C (hm2 _)) rfl to_C rfl (j := 2) rfl ?_
      by_cases c3 : (10 : Int) ^ 18 ≤ xs[p]
      · rw [if_pos c3]
        refine st_if_t (to_cB (to_2 (to_V (d := .int xs[p]) rfl) (to_2 to_C to_C hpw) (by show some (D.bl (decide ((10 : Int) ^ 18 ≤ xs[p]))) = _; rw [decide_eq_true c3]))) ?_
        refine st_setI (to_2 (to_V (d := .int xs[p]) rfl) (to_V (d := .int m) rfl) (hf _)) rfl to_C rfl (j := 3) rfl ?_
        exact st_last (st_ret (to_2 (to_N (to_cons (to_V (d := .int xs[p]) rfl) to_nil) rfl) (to_V (d := .int m) rfl) (hm _)))
      · rw [if_neg c3]
        refine st_if_f (to_cB (to_2 (to_V (d := .int xs[p]) rfl) (to_2 to_C to_C hpw) (by show some (D.bl (decide ((10 : Int) ^ 18 ≤ xs[p]))) = _; rw [decide_eq_false c3]))) (st_next ?_)
        exact st_last (st_ret (to_2 (to_N (to_cons (to_V (d := .int xs[p]) rfl) to_nil) rfl) (to_V (d := .int m) rfl) (hm _)))
    · have e : xs[p]? = none := List.getElem?_eq_none (by omega)
      rw [e]
      dsimp only
      refine st_if_t (to_cB (to_2 (x := .int (p + 1)) (y := .int xs.length) (to_ixO rfl to_C rfl) (to_N (to_cons (to_ixO (d := .lst (xs.map .int)) rfl to_C rfl) to_nil) hl) (by show some (D.bl (decide (((xs.length : Nat) : Int) < (p : Int) + 1))) = _; rw [decide_eq_true (by omega)]))) ?_
      refine st_assoc (st_setI (to_2 (to_N (to_cons (to_2 (to_2 (to_ixO (d := .int sd) rfl to_C rfl) to_C hmu) to_C (d := .int (sd * 48271 + 11)) rfl) to_nil) (d := .int (sd * 48271 + 11)) rfl) to_C (hm2 _)) rfl to_C rfl (j := 2) rfl ?_)
      exact st_ret (to_2 (to_N (to_cons (to_2 (to_ixO (d := .int ((sd * 48271 + 11).fmod 2147483647)) rfl to_C rfl) to_C (hf2 _)) to_nil) rfl) (to_V (d := .int m) rfl) (hm _))

theorem to_callO2 {n i : Nat} {F : List Cell → RS D} {fs : Act (List D)} {ds xs0 xs ys : List D} {d : D} {ρ ρ1 ρ' : DEnv} (h0 : getL i ρ = some xs0) (h : To fs ρ ds ρ1) (h1 : getL i ρ1 = some xs) (hn : ds.length + 1 = n) (e : F (.l xs :: ds.map .d) = .ok d ρ') (h2 : ρ'[0]? = some (some (.l ys))) : To (aCallO n F i fs) ρ d (ρ1.set i (some (.l ys))) := by
  unfold To at h ⊢
  unfold aCallO
  rw [getL_some h0]
  show (fs.bind _) ρ = _
  unfold Act.bind
  rw [h]
  show (match ρ1[i]? with | some (some (.l xs)) => _ | _ => _) = _
  rw [getL_some h1]
  show (if ds.length + 1 = n then _ else _) = _
  rw [if_pos hn, e]
  show (match ρ'[0]? with | some (some (.l ys)) => _ | _ => _) = _
  rw [h2]
theorem getL_cell {ρ : DEnv} {i : Nat} {r : Rw} (h : ρ[i]? = some (some r.cell)) : getL i ρ = some [.lst (r.xs.map .int), .int r.p, .int r.sd, .int r.rs] := by
  unfold getL
  rw [h]
  rfl
/-- a draw -/
theorem to_taken {i : Nat} {f : Act D} {ρ ρ1 : DEnv} {m : Int} (r0 r : Rw) (hr : r.ok) (h0 : ρ[i]? = some (some r0.cell)) (hf : To f ρ (.int m) ρ1) (h1 : ρ1[i]? = some (some r.cell)) (hm : 0 < m) (hm2 : m < 1000000000) :
    ∃ v r', Rw.ok r' ∧ 0 ≤ v ∧ v < m ∧ To (aCallO 2 RD.F__law_taken i (aCons f aNil)) ρ (.int v) (ρ1.set i (some r'.cell)) := by
  obtain ⟨ρ', e⟩ := taken2 r m hr hm hm2
  have hd := Rw.draw_range r hm
  exact ⟨r.draw m, r.next m, Rw.next_ok r m hr, hd.1, hd.2, to_callO2 (getL_cell h0) (to_cons hf to_nil) (getL_cell h1) rfl e rfl⟩
theorem pick_eq {xs : List D} (r : Rw) (hr : r.ok) (h0 : 0 < xs.length) (h1 : xs.length < 1000000000) : ∃ v r' ρ, Rw.ok r' ∧ v ∈ xs ∧ RD.F__law_pick [r.cell, .d (.lst xs)] = .ok v (some r'.cell :: ρ) := by
  obtain ⟨v, r', h2, h3, h4, h5⟩ := to_taken (i := 0) (f := aN dLen (aCons (aV 1) aNil)) (ρ := [some r.cell, some (.d (.lst xs))]) (m := xs.length) r r hr rfl (to_N (to_cons (to_V rfl) to_nil) rfl) rfl (by omega) (by omega)
  have hv : v.toNat < xs.length := by omega
  refine ⟨xs[v.toNat], r', [some (.d (.lst xs))], h2, List.getElem_mem hv, ?_⟩
  unfold RD.F__law_pick RD.g__law_pick
  refine fn_ok (ρ := [some r.cell, some (.d (.lst xs))]) rfl (st_last (st_ret ?_))
  refine to_2 (to_V (d := .lst xs) rfl) h5 ?_
  have e : dIx (.lst xs) (.int ((v.toNat : Nat) : Int)) = some xs[v.toNat] := dIx_lst (List.getElem?_eq_getElem hv)
  rwa [Int.toNat_of_nonneg h3] at e
/-- a choice from a list -/
theorem to_pick {i : Nat} {f : Act D} {ρ ρ1 : DEnv} {xs : List D} (r0 r : Rw) (hr : r.ok) (h0 : ρ[i]? = some (some r0.cell)) (hf : To f ρ (.lst xs) ρ1) (h1 : ρ1[i]? = some (some r.cell)) (hl : 0 < xs.length) (hl2 : xs.length < 1000000000) :
    ∃ v r', Rw.ok r' ∧ v ∈ xs ∧ To (aCallO 2 RD.F__law_pick i (aCons f aNil)) ρ v (ρ1.set i (some r'.cell)) := by
  obtain ⟨v, r', ρ', h2, h3, e⟩ := pick_eq (xs := xs) r hr hl hl2
  exact ⟨v, r', h2, h3, to_callO2 (getL_cell h0) (to_cons hf to_nil) (getL_cell h1) rfl e rfl⟩
/-! ### how often a step must be done -/
def Ordk (ws s : List Int) (k : Nat) : Prop := (∀ i, i < k → itr (fun x => pAdd ws x s) i s ≠ pHome ws) ∧ itr (fun x => pAdd ws x s) k s = pHome ws
theorem st_par {i j : Nat} {fs : Act (List D)} {h : GS} {ρ ρ1 : DEnv} {d e : D} {o : Out} (hf : To fs ρ [d, e] ρ1) (k : h ((ρ1.set i (some (.d d))).set j (some (.d e))) = o) : gSeq (gPar i j fs) h ρ = o := by
  unfold To at hf
  unfold gSeq gPar gOf
  rw [hf]
  exact k
theorem par_nx {i j : Nat} {fs : Act (List D)} {ρ ρ1 : DEnv} {d e : D} (hf : To fs ρ [d, e] ρ1) : gPar i j fs ρ = .nx ((ρ1.set i (some (.d d))).set j (some (.d e))) := by
  unfold To at hf
  unfold gPar gOf
  rw [hf]
theorem itr_pair {α : Type} (F : α → α) : ∀ (k : Nat) (m : Int) (a : α), itr (fun p : Int × α => (p.1 + 1, F p.2)) k (m, a) = (m + k, itr F k a)
  | 0, m, a => by simp [itr]
  | k + 1, m, a => by
    rw [itr, itr_pair F k (m + 1) (F a), itr]
    congr 1
    push_cast
    omega
theorem order_eq {ws s : List Int} {k : Nat} (hw : ∀ w ∈ ws, w ≠ 0) (hl : ws.length ≤ 1000) (hk : k < 1000) (h : Ordk ws s k) : ∃ ρ, RD.F_order_of [.d (T ws), .d (T s)] = .ok (.int (k + 1)) ρ := by
  let S : (Int × List Int) → Unit → DEnv := fun a _ => [some (.d (T ws)), some (.d (T s)), some (.d (.int a.1)), some (.d (T a.2))]
  obtain ⟨_, e⟩ := wh_iter (c := cB (a2 (dEq true) (aV 3) (aCall 1 RD.F_home (aCons (aV 0) aNil)))) (g := gPar 2 3 (aCons (a2 dAdd (aV 2) (aC (.int 1))) (aCons (aCall 3 RD.F_added (aCons (aV 0) (aCons (aV 3) (aCons (aV 1) aNil)))) aNil))) S (fun _ => True) (fun a => !decide (a.2 = pHome ws)) (fun p => (p.1 + 1, pAdd ws p.2 s))
    (fun a o _ => to_cB (to_2 (to_V (d := T a.2) rfl) (to_call (to_cons (to_V (d := T ws) rfl) to_nil) rfl (home_eq (by omega))) (by rw [dEq_T, Bool.true_xor])))
    (fun a o _ _ => ⟨trivial, (), par_nx (to_cons (to_2 (to_V (d := .int a.1) rfl) to_C (d := .int (a.1 + 1)) rfl) (to_cons (to_call (to_cons (to_V (d := T ws) rfl) (to_cons (to_V (d := T a.2) rfl) (to_cons (to_V (d := T s) rfl) to_nil))) rfl (added_eq hw (by omega))) to_nil))⟩)
    k 1000 (1, s) () trivial hk (fun i hi => by have q := itr_pair (fun x => pAdd ws x s) i 1 s; rw [q]; simp [h.1 i hi]) (by have q := itr_pair (fun x => pAdd ws x s) k 1 s; rw [q]; simp [h.2])
  unfold RD.F_order_of RD.g_order_of
  have q := itr_pair (fun x => pAdd ws x s) k 1 s
  rw [q] at e
  refine ⟨S (1 + k, itr (fun x => pAdd ws x s) k s) (), fn_ok (ρ := [some (.d (T ws)), some (.d (T s)), none, none]) rfl ?_⟩
  refine st_par (to_cons to_C (to_cons (to_V rfl) to_nil)) (st_wh e (st_last (st_ret ?_)))
  refine to_V ?_
  show some (some (Cell.d (.int (1 + (k : Int))))) = _
  rw [Int.add_comm]
theorem lorder_eq {ws s : List Int} {k : Nat} (hw : ∀ w ∈ ws, w ≠ 0) (hl : ws.length ≤ 1000) (hs : s.length = ws.length) (hk : k < 1000) (h : Ordk ws s k) : ∃ ρ, RD.F__law_order [.d (T ws), .d (T s)] = .ok (.int (k + 1)) ρ := by
  let S : (Int × List Int) → Unit → DEnv := fun a _ => [some (.d (T ws)), some (.d (T s)), some (.d (.int a.1)), some (.d (T a.2))]
  obtain ⟨_, e⟩ := wh_iter (c := cB (a2 (dEq true) (aV 3) (aCall 1 RD.F__law_home (aCons (aV 0) aNil)))) (g := gPar 2 3 (aCons (a2 dAdd (aV 2) (aC (.int 1))) (aCons (aCall 3 RD.F__law_added (aCons (aV 0) (aCons (aV 3) (aCons (aV 1) aNil)))) aNil))) S (fun a => a.2.length = ws.length) (fun a => !decide (a.2 = pHome ws)) (fun p => (p.1 + 1, pAdd ws p.2 s))
    (fun a o _ => to_cB (to_2 (to_V (d := T a.2) rfl) (to_call (to_cons (to_V (d := T ws) rfl) to_nil) rfl (lhome_eq (by omega))) (by rw [dEq_T, Bool.true_xor])))
    (fun a o ha _ => ⟨pAdd_length ha hs, (), par_nx (to_cons (to_2 (to_V (d := .int a.1) rfl) to_C (d := .int (a.1 + 1)) rfl) (to_cons (to_call (to_cons (to_V (d := T ws) rfl) (to_cons (to_V (d := T a.2) rfl) (to_cons (to_V (d := T s) rfl) to_nil))) rfl (ladded_eq hw (by omega) ha hs)) to_nil))⟩)
    k 1000 (1, s) () hs hk (fun i hi => by have q := itr_pair (fun x => pAdd ws x s) i 1 s; rw [q]; simp [h.1 i hi]) (by have q := itr_pair (fun x => pAdd ws x s) k 1 s; rw [q]; simp [h.2])
  unfold RD.F__law_order RD.g__law_order
  have q := itr_pair (fun x => pAdd ws x s) k 1 s
  rw [q] at e
  refine ⟨S (1 + k, itr (fun x => pAdd ws x s) k s) (), fn_ok (ρ := [some (.d (T ws)), some (.d (T s)), none, none]) rfl ?_⟩
  refine st_par (to_cons to_C (to_cons (to_V rfl) to_nil)) (st_wh e (st_last (st_ret ?_)))
  refine to_V ?_
  show some (some (Cell.d (.int (1 + (k : Int))))) = _
  rw [Int.add_comm]
end DL
end
section
set_option Elab.async false
set_option linter.all false
set_option maxRecDepth 100000
set_option maxHeartbeats 2000000
namespace DL
open PySem PySem.Spec PyProof.Rows L2
/-! ### the steps of wheels; the wheels that the laws draw -/
def pSteps (ws : List Int) : List (List Int) := ws.foldl (fun found w => found.flatMap fun s => (List.range w.toNat).map fun o => s ++ [((o : Nat) : Int)]) [[]]
def St (ws s : List Int) : Prop := s.length = ws.length ∧ ∀ p ∈ s.zip ws, 0 ≤ p.1 ∧ p.1 < p.2
def stB (ws s : List Int) : Bool := s.length == ws.length && (s.zip ws).all fun p => decide (0 ≤ p.1) && decide (p.1 < p.2)
theorem stB_iff {ws s : List Int} : stB ws s = true ↔ St ws s := by
  unfold stB St
  rw [Bool.and_eq_true, beq_iff_eq, List.all_eq_true]
  constructor
  · rintro ⟨h1, h2⟩
    exact ⟨h1, fun p hp => by simpa using h2 p hp⟩
  · rintro ⟨h1, h2⟩
    exact ⟨h1, fun p hp => by simpa using h2 p hp⟩
def findO (ws s : List Int) : Nat → List Int → Nat → Option Nat
  | 0, _, _ => none
  | n + 1, now, k => if now = pHome ws then some k else findO ws s n (pAdd ws now s) (k + 1)
theorem findO_some {ws s : List Int} : ∀ {n : Nat} {now : List Int} {j k : Nat}, findO ws s n now j = some k → ∃ m, k = j + m ∧ m < n ∧ (∀ i, i < m → itr (fun x => pAdd ws x s) i now ≠ pHome ws) ∧ itr (fun x => pAdd ws x s) m now = pHome ws
  | 0, _, _, _, h => by cases h
  | n + 1, now, j, k, h => by
    unfold findO at h
    split at h
    · rename_i e
      cases h
      exact ⟨0, rfl, Nat.zero_lt_succ _, fun i hi => absurd hi (Nat.not_lt_zero _), e⟩
    · rename_i e
      obtain ⟨m, h1, h2, h3, h4⟩ := findO_some h
      refine ⟨m + 1, by omega, by omega, fun i hi => ?_, h4⟩
      cases i with
      | zero => exact e
      | succ i => exact h3 i (by omega)
def okW (ws : List Int) : Bool := decide (ws.length ≤ 3) && (ws.all (fun w => decide (2 ≤ w) && decide (w ≤ 400)) && (okIs (RD.F_need_wheels [.d (T ws)]) .non && (okIs (RD.F_all_steps [.d (T ws)]) (.lst ((pSteps ws).map T)) && (okIs (RD.F__law_steps [.d (T ws)]) (.lst ((pSteps ws).map T)) &&
  ((pSteps ws).all (fun s => stB ws s && (findO ws s 400 s 0).isSome) && (decide (0 < (pSteps ws).length) && decide ((pSteps ws).length ≤ 400)))))))
/-- one less than the order -/
def pK (ws s : List Int) : Nat := (findO ws s 400 s 0).getD 0
structure OkW (ws : List Int) : Prop where
  len : ws.length ≤ 3
  ge : ∀ w ∈ ws, 2 ≤ w ∧ w ≤ 400
  need : ∃ ρ, RD.F_need_wheels [.d (T ws)] = .ok .non ρ
  all : ∃ ρ, RD.F_all_steps [.d (T ws)] = .ok (.lst ((pSteps ws).map T)) ρ
  lall : ∃ ρ, RD.F__law_steps [.d (T ws)] = .ok (.lst ((pSteps ws).map T)) ρ
  st : ∀ s ∈ pSteps ws, St ws s
  ord : ∀ s ∈ pSteps ws, pK ws s < 400 ∧ Ordk ws s (pK ws s)
  pos : 0 < (pSteps ws).length
  few : (pSteps ws).length ≤ 400
theorem okW_of {ws : List Int} (h : okW ws = true) : OkW ws := by
  unfold okW at h
  simp only [Bool.and_eq_true] at h
  obtain ⟨h1, h2, h3, h4, h5, h6, h7, h8⟩ := h
  have h2' := List.all_eq_true.mp h2
  have h6' := List.all_eq_true.mp h6
  refine ⟨of_decide_eq_true h1, fun w hw => by simpa using h2' w hw, okIs_of h3, okIs_of h4, okIs_of h5, fun s hs => ?_, fun s hs => ?_, of_decide_eq_true h7, of_decide_eq_true h8⟩
  · exact stB_iff.mp (Bool.and_eq_true_iff.mp (h6' s hs)).1
  · obtain ⟨k, hk⟩ := Option.isSome_iff_exists.mp (Bool.and_eq_true_iff.mp (h6' s hs)).2
    obtain ⟨m, e, hm, h3, h4⟩ := findO_some hk
    have e2 : pK ws s = m := by unfold pK; rw [hk]; show k = m; omega
    rw [e2]
    exact ⟨hm, h3, h4⟩
theorem OkW.nz {ws : List Int} (h : OkW ws) : ∀ w ∈ ws, w ≠ 0 := fun w hw => by have := h.ge w hw; omega
def menu : List (List Int) := [[2], [3], [4], [5], [6], [7], [8], [9], [10], [11], [12], [13], [2, 2], [2, 4], [3, 3], [2, 6], [4, 4], [2, 2, 2], [3, 6], [2, 3], [16], [15], [2, 2, 4]]
theorem menu_ok : menu.all okW = true := by decide +kernel
theorem menu_okW {ws : List Int} (h : ws ∈ menu) : OkW ws := okW_of (List.all_eq_true.mp menu_ok ws h)
end DL
end
section
set_option Elab.async false
set_option linter.all false
set_option maxRecDepth 100000
set_option maxHeartbeats 2000000
namespace DL
open PySem PySem.Spec PyProof.Rows L2
theorem lwheels_eq (r : Rw) (hr : r.ok) : ∃ ws r' ρ, Rw.ok r' ∧ ws ∈ menu ∧ RD.F__law_wheels [r.cell] = .ok (T ws) (some r'.cell :: ρ) := by
  have hl : (.lst (menu.map T) : D) = .lst (menu.map T) := rfl
  obtain ⟨v, r', h1, h2, h3⟩ := to_pick (i := 0) (f := aC (.lst (menu.map T))) (ρ := [some r.cell, none]) (ρ1 := [some r.cell, none]) r r hr rfl to_C rfl (by decide) (by decide)
  obtain ⟨v, r', h1, h2, h3⟩ := to_pick (i := 0) (f := a2 dAdd (aV 1) (aLst (fLst (aCons (aN dTup (aCons (aC (.int 2)) (aCons (aC (.int 2)) (aCons (aC (.int 2)) aNil)))) (aCons (aN dTup (aCons (aC (.int 3)) (aCons (aC (.int 6)) aNil))) (aCons (aN dTup (aCons (aC (.int 2)) (aCons (aC (.int 3)) aNil))) (aCons (aN dTup (aCons (aC (.int 16)) aNil)) (aCons (aN dTup (aCons (aC (.int 15)) aNil)) (aCons (aN dTup (aCons (aC (.int 2)) (aCons (aC (.int 2)) (aCons (aC (.int 4)) aNil)))) aNil)))))))))
    (ρ := [some r.cell, some (.d (.lst ((menu.take 17).map T)))]) (ρ1 := [some r.cell, some (.d (.lst ((menu.take 17).map T)))]) (xs := menu.map T) r r hr rfl (by rfl) rfl (by decide) (by decide)
  obtain ⟨ws, hw, rfl⟩ := List.mem_map.mp h2
  refine ⟨ws, r', [some (.d (.lst ((menu.take 17).map T)))], h1, hw, ?_⟩
  unfold RD.F__law_wheels RD.g__law_wheels
  refine fn_ok (ρ := [some r.cell, none]) rfl ?_
  refine st_set (d := .lst ((menu.take 10).map T)) (ρ1 := [some r.cell, none]) (by rfl) ?_
  refine st_set (d := .lst ((menu.take 17).map T)) (ρ1 := [some r.cell, some (.d (.lst ((menu.take 10).map T)))]) (by rfl) ?_
  exact st_last (st_ret h3)
theorem st_asg {t : Tg} {f : Act D} {h : GS} {ρ ρ1 ρ2 : DEnv} {d : D} {o : Out} (hf : To f ρ d ρ1) (ht : t d ρ1 = some ρ2) (k : h ρ2 = o) : gSeq (gAsg t f) h ρ = o := by
  unfold To at hf
  unfold gSeq gAsg gOf
  rw [hf]
  dsimp only
  rw [ht]
  exact k
theorem St.bound {ws s : List Int} (h : St ws s) (hw : ∀ w ∈ ws, w ≤ 400) : ∀ x ∈ s, 0 ≤ x ∧ x < 400 := fun x hx => by
  obtain ⟨i, hi, e⟩ := List.getElem_of_mem hx
  have hi2 : i < ws.length := by rw [← h.1]; exact hi
  have m : (s[i], ws[i]) ∈ s.zip ws := by
    have e2 : (s.zip ws)[i]? = some (s[i], ws[i]) := by
      rw [List.getElem?_zip_eq_some]
      exact ⟨List.getElem?_eq_getElem hi, List.getElem?_eq_getElem hi2⟩
    exact List.mem_of_getElem? e2
  have := h.2 _ m
  have h2 := hw _ (List.getElem_mem hi2)
  rw [← e]
  dsimp only at this
  omega
theorem zip_times {n : Int} : ∀ {ws s : List Int}, (∀ w ∈ ws, 0 < w) → ∀ p ∈ (pTimes ws s n).zip ws, 0 ≤ p.1 ∧ p.1 < p.2
  | [], s, _, p, hp => by rw [List.zip_nil_right] at hp; cases hp
  | w :: ws, [], _, p, hp => by
    have : pTimes (w :: ws) [] n = [] := rfl
    rw [this] at hp
    cases hp
  | w :: ws, s :: ss, h, p, hp => by
    rw [pTimes_cons, List.zip_cons_cons] at hp
    rcases List.mem_cons.mp hp with rfl | hp
    · have hw := h w List.mem_cons_self
      exact ⟨Int.fmod_nonneg_of_pos _ hw, Int.fmod_lt_of_pos _ hw⟩
    · exact zip_times (fun w hw => h w (List.mem_cons_of_mem _ hw)) p hp
theorem times_St {ws s : List Int} {n : Int} (h : OkW ws) (hs : St ws s) : St ws (pTimes ws s n) := ⟨pTimes_length hs.1, zip_times fun w hw => by have := h.ge w hw; omega⟩
/-- the row that a law draws -/
theorem rw_steps {ws : List Int} (Q : List Int → Prop) : ∀ {ys : List D}, (∀ y ∈ ys, ∃ s, Q s ∧ y = T s) → ∃ row : List (List Int), (∀ s ∈ row, Q s) ∧ ys = row.map T
  | [], _ => ⟨[], (fun s hs => by cases hs), rfl⟩
  | y :: ys, h => by
    obtain ⟨s, h1, rfl⟩ := h y List.mem_cons_self
    obtain ⟨row, h2, rfl⟩ := rw_steps (ws := ws) Q (ys := ys) fun z hz => h z (List.mem_cons_of_mem _ hz)
    exact ⟨s :: row, fun z hz => (List.mem_cons.mp hz).elim (fun e => e ▸ h1) (h2 z), rfl⟩
abbrev rowT (ws : List Int) (most : Nat) (c u k t f a : Option Cell) : DEnv := [some (.d (T ws)), some (.d (.int most)), some (.d (.lst ((pSteps ws).map T))), c, u, k, t, f, a]
abbrev rowE (r : Rw) (ws : List Int) (most : Nat) (c u k t f a : Option Cell) : DEnv := [some r.cell, some (.d (T ws)), some (.d (.int most)), some (.d (.lst ((pSteps ws).map T))), c, u, k, t, f, a]
theorem sIx_hi {n i : Nat} (h : i ≤ n) : HT.sIx n n (some (i : Int)) = i := by
  rw [HT.sIx_nat]
  omega
theorem sIx_lo {n i : Nat} (h : i ≤ n) : HT.sIx n 0 (some (i : Int)) = i := by
  rw [HT.sIx_nat]
  omega
theorem cut_hi {xs : List D} {i : Nat} (h : i ≤ xs.length) : cutD xs none (some (i : Int)) = xs.take i := by
  unfold cutD
  rw [sIx_hi h]
  show List.take (i - 0) (List.drop 0 xs) = _
  rw [List.drop_zero, Nat.sub_zero]
theorem cut_lo {xs : List D} {i : Nat} (h : i ≤ xs.length) : cutD xs (some (i : Int)) none = xs.drop i := by
  unfold cutD
  rw [sIx_lo h]
  show List.take (xs.length - i) (List.drop i xs) = _
  rw [List.take_of_length_le (by rw [List.length_drop]; exact Nat.le_refl _)]
theorem lrow_eq {ws : List Int} (h : OkW ws) (r : Rw) (hr : r.ok) {most : Nat} (hm : most ≤ 1000) : ∃ (row : List (List Int)) (r' : Rw) (ρ : DEnv), r'.ok ∧ (∀ s ∈ row, St ws s) ∧ row.length ≤ most ∧ RD.F__law_row [r.cell, .d (T ws), .d (.int most)] = .ok (.tup (row.map T)) (some r'.cell :: ρ) := by
  obtain ⟨ρs, es⟩ := h.lall
  have hge : ∀ w ∈ ws, w ≤ 400 := fun w hw => (h.ge w hw).2
  have hns : (pSteps ws).length < 1000000000 := by have := h.few; omega
  -- count, unit
  obtain ⟨cnt, r1, hr1, c0, c1, hc⟩ := to_taken (i := 0) (f := a2 dAdd (aV 2) (aC (.int 1))) (ρ := rowE r ws most none none none none none none) (ρ1 := rowE r ws most none none none none none none) (m := most + 1) r r hr rfl (to_2 (to_V rfl) to_C rfl) rfl (by omega) (by omega)
  obtain ⟨un, r2, hr2, hun, hu⟩ := to_pick (i := 0) (f := aV 3) (ρ := rowE r1 ws most none none none none none none) (ρ1 := rowE r1 ws most none none none none none none) (xs := (pSteps ws).map T) r1 r1 hr1 rfl (to_V rfl) rfl (by rw [List.length_map]; exact h.pos) (by rw [List.length_map]; exact hns)
  obtain ⟨unit, hunit, rfl⟩ := List.mem_map.mp hun
  have hSt := h.st unit hunit
  obtain ⟨kd, r3, hr3, k0, k1, hk⟩ := to_taken (i := 0) (f := aC (.int 3)) (ρ := rowE r2 ws most (some (.d (.int cnt))) (some (.d (T unit))) none none none none) (ρ1 := rowE r2 ws most (some (.d (.int cnt))) (some (.d (T unit))) none none none none) (m := 3) r2 r2 hr2 rfl to_C rfl (by omega) (by omega)
  have hcn : cnt = ((cnt.toNat : Nat) : Int) := by omega
  have hrange : To (aIN opRange1 (aCons (aV 4) aNil)) (rowE r3 ws most (some (.d (.int cnt))) (some (.d (T unit))) (some (.d (.int kd))) none none none) ((List.range cnt.toNat).map fun i => D.int (i : Nat)) (rowE r3 ws most (some (.d (.int cnt))) (some (.d (T unit))) (some (.d (.int kd))) none none none) :=
    to_bind (to_cons (to_V (d := .int cnt) rfl) to_nil) (to_lift (by rw [hcn]; exact range1_nat (by omega)))
  unfold RD.F__law_row RD.g__law_row
  have start : ∀ {o : Out} {k : GS}, k (rowE r3 ws most (some (.d (.int cnt))) (some (.d (T unit))) (some (.d (.int kd))) none none none) = o →
      gSeq (gSet 3 (aCall 1 RD.F__law_steps (aCons (aV 1) aNil))) (gSeq (gAsg (tgT 2 (tgCons (tgN 4) (tgCons (tgN 5) tgNil))) (aN dTup (aCons (aCallO 2 RD.F__law_taken 0 (aCons (a2 dAdd (aV 2) (aC (.int 1))) aNil)) (aCons (aCallO 2 RD.F__law_pick 0 (aCons (aV 3) aNil)) aNil)))) (gSeq (gSet 6 (aCallO 2 RD.F__law_taken 0 (aCons (aC (.int 3)) aNil))) k)) [some r.cell, some (.d (T ws)), some (.d (.int most)), none, none, none, none, none, none, none] = o := fun {o k} e =>
    st_set (to_call (to_cons (to_V (d := T ws) rfl) to_nil) rfl es) (st_asg (to_N (to_cons hc (to_cons hu to_nil)) rfl) rfl (st_set hk e))
  by_cases z0 : kd = 0
  · -- drawn steps
    obtain ⟨ys, ρ', ey, hyl, hyy, r4, hr4, rfl⟩ := to_rel (vs := [7]) (t := tgN 7) (f := aCallO 2 RD.F__law_pick 0 (aCons (aV 3) aNil)) (fun ρ => ∃ r4 : Rw, r4.ok ∧ ρ = rowE r4 ws most (some (.d (.int cnt))) (some (.d (T unit))) (some (.d (.int kd))) none none none) (fun y => ∃ s, St ws s ∧ y = T s) hrange (by simp; omega) ⟨r3, hr3, rfl⟩ (fun d hd ρ ⟨r4, hr4, e⟩ => by
      subst e
      obtain ⟨i, _, rfl⟩ := List.mem_map.mp hd
      obtain ⟨v, r5, hr5, hv, e5⟩ := to_pick (i := 0) (f := aV 3) (ρ := rowE r4 ws most (some (.d (.int cnt))) (some (.d (T unit))) (some (.d (.int kd))) (some (.d (.int i))) none none) (ρ1 := rowE r4 ws most (some (.d (.int cnt))) (some (.d (T unit))) (some (.d (.int kd))) (some (.d (.int i))) none none) (xs := (pSteps ws).map T) r4 r4 hr4 rfl (to_V rfl) rfl (by rw [List.length_map]; exact h.pos) (by rw [List.length_map]; exact hns)
      obtain ⟨s, hs, rfl⟩ := List.mem_map.mp hv
      exact ⟨_, _, _, rfl, e5, ⟨s, h.st s hs, rfl⟩, r5, hr5, rfl⟩)
    obtain ⟨row, hrow, rfl⟩ := rw_steps (ws := ws) (St ws) hyy
    refine ⟨row, r4, rowT ws most (some (.d (.int cnt))) (some (.d (T unit))) (some (.d (.int kd))) none none none, hr4, hrow, ?_, fn_ok rfl (start ?_)⟩
    · rw [List.length_map, List.length_map, List.length_range] at hyl
      omega
    · refine st_if_t (to_cB (to_2 (to_V (d := .int kd) rfl) to_C (by rw [dEq_int, Bool.false_xor, decide_eq_true z0]))) ?_
      exact st_ret (to_N (to_cons (to_bind ey rfl) to_nil) rfl)
  · -- multiples
    obtain ⟨ys, ρ', ey, hyl, hyy, r4, hr4, rfl⟩ := to_rel (vs := [7]) (t := tgN 7) (f := aCall 3 RD.F__law_times (aCons (aV 1) (aCons (aV 5) (aCons (a2 dAdd (aC (.int 1)) (aCallO 2 RD.F__law_taken 0 (aCons (a2 dAdd (aC (.int 1)) (aCallO 2 RD.F__law_taken 0 (aCons (aC (.int 3)) aNil))) aNil))) aNil)))) (fun ρ => ∃ r4 : Rw, r4.ok ∧ ρ = rowE r4 ws most (some (.d (.int cnt))) (some (.d (T unit))) (some (.d (.int kd))) none none none) (fun y => ∃ s, St ws s ∧ y = T s) hrange (by simp; omega) ⟨r3, hr3, rfl⟩ (fun d hd ρ ⟨r4, hr4, e⟩ => by
      subst e
      obtain ⟨i, _, rfl⟩ := List.mem_map.mp hd
      obtain ⟨v, r5, hr5, v0, v1, e5⟩ := to_taken (i := 0) (f := aC (.int 3)) (ρ := rowE r4 ws most (some (.d (.int cnt))) (some (.d (T unit))) (some (.d (.int kd))) (some (.d (.int i))) none none) (ρ1 := rowE r4 ws most (some (.d (.int cnt))) (some (.d (T unit))) (some (.d (.int kd))) (some (.d (.int i))) none none) (m := 3) r4 r4 hr4 rfl to_C rfl (by omega) (by omega)
      obtain ⟨u, r6, hr6, u0, u1, e6⟩ := to_taken (i := 0) (f := a2 dAdd (aC (.int 1)) (aCallO 2 RD.F__law_taken 0 (aCons (aC (.int 3)) aNil))) (ρ := rowE r4 ws most (some (.d (.int cnt))) (some (.d (T unit))) (some (.d (.int kd))) (some (.d (.int i))) none none) (ρ1 := rowE r5 ws most (some (.d (.int cnt))) (some (.d (T unit))) (some (.d (.int kd))) (some (.d (.int i))) none none) (m := 1 + v) r4 r5 hr5 rfl (to_2 to_C e5 rfl) rfl (by omega) (by omega)
      have hb : ∀ x ∈ unit, -(2 ^ 64) < x ∧ x < 2 ^ 64 := fun x hx => by have := hSt.bound hge x hx; omega
      exact ⟨_, _, rowE r6 ws most (some (.d (.int cnt))) (some (.d (T unit))) (some (.d (.int kd))) (some (.d (.int i))) none none, rfl, to_call (to_cons (to_V (d := T ws) rfl) (to_cons (to_V (d := T unit) rfl) (to_cons (to_2 to_C e6 (d := .int (1 + u)) rfl) to_nil))) rfl (ltimes_eq h.nz (by have := h.len; omega) hSt.1 hb), ⟨_, times_St h hSt, rfl⟩, r6, hr6, rfl⟩)
    obtain ⟨row, hrow, rfl⟩ := rw_steps (ws := ws) (St ws) hyy
    rw [List.length_map, List.length_map, List.length_range] at hyl
    have go : ∀ {o : Out} {k : GS} {a : GS}, k (rowE r4 ws most (some (.d (.int cnt))) (some (.d (T unit))) (some (.d (.int kd))) none (some (.d (.tup (row.map T)))) none) = o → gSeq (gIf (cB (a2 (dEq false) (aV 6) (aC (.int 0)))) a gNext) (gSeq (gSet 8 (aN dTuple (aCons (aLst (aComp [7] (aIN opRange1 (aCons (aV 4) aNil)) (tgN 7) cYes (aCall 3 RD.F__law_times (aCons (aV 1) (aCons (aV 5) (aCons (a2 dAdd (aC (.int 1)) (aCallO 2 RD.F__law_taken 0 (aCons (a2 dAdd (aC (.int 1)) (aCallO 2 RD.F__law_taken 0 (aCons (aC (.int 3)) aNil))) aNil))) aNil)))))) aNil))) k) (rowE r3 ws most (some (.d (.int cnt))) (some (.d (T unit))) (some (.d (.int kd))) none none none) = o := fun {o k a} e =>
      st_if_f (to_cB (to_2 (to_V (d := .int kd) rfl) to_C (by rw [dEq_int, Bool.false_xor, decide_eq_false z0]))) (st_next (st_set (to_N (to_cons (to_bind ey rfl) to_nil) rfl) e))
    by_cases z1 : kd = 1 ∨ cnt = 0
    · refine ⟨row, r4, rowT ws most (some (.d (.int cnt))) (some (.d (T unit))) (some (.d (.int kd))) none (some (.d (.tup (row.map T)))) none, hr4, hrow, ?_, fn_ok rfl (start (go ?_))⟩
      · omega
      · refine st_if_t (ρ1 := rowE r4 ws most (some (.d (.int cnt))) (some (.d (T unit))) (some (.d (.int kd))) none (some (.d (.tup (row.map T)))) none) ?_ (st_ret (to_V rfl))
        by_cases z2 : kd = 1
        · exact to_or_t (to_cB (to_2 (to_V (d := .int kd) rfl) to_C (by rw [dEq_int, Bool.false_xor, decide_eq_true z2])))
        · exact to_or_f (to_cB (to_2 (to_V (d := .int kd) rfl) to_C (by rw [dEq_int, Bool.false_xor, decide_eq_false z2]))) (to_cB (to_2 (to_V (d := .int cnt) rfl) to_C (by rw [dEq_int, Bool.false_xor, decide_eq_true (z1.resolve_left z2)])))
    · -- one step changed
      obtain ⟨at_, r5, hr5, a0, a1, e5⟩ := to_taken (i := 0) (f := aV 4) (ρ := rowE r4 ws most (some (.d (.int cnt))) (some (.d (T unit))) (some (.d (.int kd))) none (some (.d (.tup (row.map T)))) none) (ρ1 := rowE r4 ws most (some (.d (.int cnt))) (some (.d (T unit))) (some (.d (.int kd))) none (some (.d (.tup (row.map T)))) none) (m := cnt) r4 r4 hr4 rfl (to_V rfl) rfl (by omega) (by omega)
      obtain ⟨v, r6, hr6, hv, e6⟩ := to_pick (i := 0) (f := aV 3) (ρ := rowE r5 ws most (some (.d (.int cnt))) (some (.d (T unit))) (some (.d (.int kd))) none (some (.d (.tup (row.map T)))) (some (.d (.int at_)))) (ρ1 := rowE r5 ws most (some (.d (.int cnt))) (some (.d (T unit))) (some (.d (.int kd))) none (some (.d (.tup (row.map T)))) (some (.d (.int at_)))) (xs := (pSteps ws).map T) r5 r5 hr5 rfl (to_V rfl) rfl (by rw [List.length_map]; exact h.pos) (by rw [List.length_map]; exact hns)
      obtain ⟨s, hs, rfl⟩ := List.mem_map.mp hv
      have hat : at_ = ((at_.toNat : Nat) : Int) := by omega
      have hlen : at_.toNat + 1 ≤ (row.map T).length := by rw [List.length_map]; omega
      refine ⟨row.take at_.toNat ++ [s] ++ row.drop (at_.toNat + 1), r6, rowT ws most (some (.d (.int cnt))) (some (.d (T unit))) (some (.d (.int kd))) none (some (.d (.tup (row.map T)))) (some (.d (.int at_))), hr6, fun x hx => ?_, ?_, fn_ok rfl (start (go ?_))⟩
      · rcases List.mem_append.mp hx with hx | hx
        · rcases List.mem_append.mp hx with hx | hx
          · exact hrow x (List.mem_of_mem_take hx)
          · rw [List.mem_singleton.mp hx]; exact h.st s hs
        · exact hrow x (List.mem_of_mem_drop hx)
      · simp
        omega
      · refine st_if_f (to_or_f (to_cB (to_2 (to_V (d := .int kd) rfl) to_C (by rw [dEq_int, Bool.false_xor, decide_eq_false (fun z => z1 (.inl z))]))) (to_cB (to_2 (to_V (d := .int cnt) rfl) to_C (by rw [dEq_int, Bool.false_xor, decide_eq_false (fun z => z1 (.inr z))])))) (st_next (st_set e5 (st_last (st_ret ?_))))
        have t1 : dSl (.tup (row.map T)) none (some at_) = some (.tup ((row.take at_.toNat).map T)) := by
          show some (D.tup (cutD (row.map T) none (some at_))) = _
          rw [hat, cut_hi (by omega), List.map_take, Int.toNat_natCast]
        have t2 : dSl (.tup (row.map T)) (some (at_ + 1)) none = some (.tup ((row.drop (at_.toNat + 1)).map T)) := by
          show some (D.tup (cutD (row.map T) (some (at_ + 1)) none)) = _
          have e1 : at_ + 1 = ((at_.toNat + 1 : Nat) : Int) := by omega
          rw [e1, cut_lo hlen, List.map_drop]
        refine to_2 (to_2 (to_bind (to_V (d := .tup (row.map T)) rfl) (to_bind rfl (to_bind (to_bind (to_V (d := .int at_) rfl) (to_lift rfl)) (to_lift t1)))) (to_N (to_cons e6 to_nil) rfl) (d := .tup ((row.take at_.toNat ++ [s]).map T)) ?_) (to_bind (to_V (d := .tup (row.map T)) rfl) (to_bind (to_bind (to_2 (to_V (d := .int at_) rfl) to_C (d := .int (at_ + 1)) rfl) (to_lift rfl)) (to_bind rfl (to_lift t2)))) ?_
        · unfold dAdd
          dsimp only
          rw [if_pos (by simp; omega)]
          simp
        · unfold dAdd
          dsimp only
          rw [if_pos (by simp; omega)]
          simp
end DL
end
section
set_option Elab.async false
set_option linter.all false
set_option maxRecDepth 100000
set_option maxHeartbeats 2000000
namespace DL
open PySem PySem.Spec PyProof.Rows L2
/-! ### multiples of a step -/
theorem fmod_pos {a w : Int} (h : 0 < w) : a.fmod w = a % w := Int.fmod_eq_emod_of_nonneg a (by omega)
theorem pAdd_times : ∀ {ws s : List Int} {j : Int}, (∀ w ∈ ws, 0 < w) → pAdd ws (pTimes ws s j) s = pTimes ws s (j + 1)
  | [], s, j, _ => by cases s <;> rfl
  | w :: ws, [], j, _ => rfl
  | w :: ws, s :: ss, j, h => by
    have hw := h w List.mem_cons_self
    rw [pTimes_cons, pTimes_cons]
    show ((s * j).fmod w + s).fmod w :: pAdd ws (pTimes ws ss j) ss = _
    rw [pAdd_times (fun w hw => h w (List.mem_cons_of_mem _ hw)), fmod_pos hw, fmod_pos hw, fmod_pos hw, Int.emod_add_emod, Int.mul_add, Int.mul_one]
theorem pTimes_one : ∀ {ws s : List Int}, s.length = ws.length → (∀ p ∈ s.zip ws, 0 ≤ p.1 ∧ p.1 < p.2) → pTimes ws s 1 = s
  | [], [], _, _ => rfl
  | [], _ :: _, h, _ => by simp at h
  | _ :: _, [], h, _ => by simp at h
  | w :: ws, s :: ss, h, hp => by
    rw [pTimes_cons, pTimes_one (by simpa using h) (fun p q => hp p (by rw [List.zip_cons_cons]; exact List.mem_cons_of_mem _ q))]
    have := hp (s, w) (by rw [List.zip_cons_cons]; exact List.mem_cons_self)
    dsimp only at this
    rw [fmod_pos (by omega), Int.mul_one, Int.emod_eq_of_lt this.1 this.2]
theorem itr_times {ws s : List Int} (hw : ∀ w ∈ ws, 0 < w) (hs : St ws s) : ∀ i : Nat, itr (fun x => pAdd ws x s) i s = pTimes ws s (i + 1) := by
  have key : ∀ (i : Nat) (j : Int), itr (fun x => pAdd ws x s) i (pTimes ws s j) = pTimes ws s (j + i) := fun i => by
    induction i with
    | zero => intro j; simp [itr]
    | succ i ih =>
      intro j
      rw [itr, pAdd_times hw, ih]
      congr 1
      push_cast
      omega
  intro i
  have := key i 1
  rw [pTimes_one hs.1 hs.2] at this
  rw [this, Int.add_comm]
theorem OkW.pos' {ws : List Int} (h : OkW ws) : ∀ w ∈ ws, 0 < w := fun w hw => by have := h.ge w hw; omega
theorem ordk_times {ws s : List Int} (hw : ∀ w ∈ ws, 0 < w) (hs : St ws s) {k : Nat} (h : Ordk ws s k) : (∀ n : Nat, 1 ≤ n → n ≤ k → pTimes ws s n ≠ pHome ws) ∧ pTimes ws s (k + 1) = pHome ws := by
  refine ⟨fun n h1 h2 => ?_, ?_⟩
  · have := h.1 (n - 1) (by omega)
    rw [itr_times hw hs] at this
    have e : ((n - 1 : Nat) : Int) + 1 = n := by omega
    rw [e] at this
    exact this
  · have := h.2
    rw [itr_times hw hs] at this
    exact this
/-- equal multiples differ by one that leads home -/
theorem times_sub : ∀ {ws s : List Int} {i j : Int}, (∀ w ∈ ws, 0 < w) → s.length = ws.length → pTimes ws s i = pTimes ws s j → pTimes ws s (j - i) = pHome ws
  | [], [], i, j, _, _, _ => rfl
  | [], _ :: _, _, _, _, h, _ => by simp at h
  | _ :: _, [], _, _, _, h, _ => by simp at h
  | w :: ws, s :: ss, i, j, h, hl, e => by
    have hw := h w List.mem_cons_self
    rw [pTimes_cons, pTimes_cons] at e
    obtain ⟨e1, e2⟩ := List.cons.inj e
    rw [pTimes_cons, times_sub (fun w hw => h w (List.mem_cons_of_mem _ hw)) (by simpa using hl) e2]
    rw [fmod_pos hw] at e1
    rw [fmod_pos hw] at e1
    show _ = (0 : Int) :: pHome ws
    congr 1
    rw [fmod_pos hw, Int.mul_sub, Int.sub_emod, e1, Int.sub_self, Int.zero_emod]
theorem times_inj {ws s : List Int} (hw : ∀ w ∈ ws, 0 < w) (hs : St ws s) {k : Nat} (h : Ordk ws s k) {i j : Nat} (hi : 1 ≤ i) (hij : i < j) (hj : j ≤ k + 1) : pTimes ws s i ≠ pTimes ws s j := fun e => by
  have := times_sub hw hs.1 e
  have e2 : (j : Int) - i = ((j - i : Nat) : Int) := by omega
  rw [e2] at this
  exact (ordk_times hw hs h).1 (j - i) (by omega) (by omega) this
/-! ### keys -/
def keyT (xs : List Int) : NestedKey := .tup (xs.map .num)
theorem keys_ints : ∀ xs : List Int, D.keys (xs.map .int) = some (xs.map .num)
  | [] => rfl
  | x :: xs => by rw [List.map_cons, D.keys, keys_ints xs]; rfl
theorem key_T (xs : List Int) : (T xs).key = some (keyT xs) := by
  rw [D.key, keys_ints]
  rfl
theorem keyT_inj {xs ys : List Int} (h : keyT xs = keyT ys) : xs = ys := by
  unfold keyT at h
  injection h with h
  induction xs generalizing ys with
  | nil => cases ys with
    | nil => rfl
    | cons y ys => cases h
  | cons x xs ih => cases ys with
    | nil => cases h
    | cons y ys =>
      rw [List.map_cons, List.map_cons] at h
      injection h with h1 h2
      injection h1 with h1
      rw [h1, ih h2]
end DL
end
section
set_option Elab.async false
set_option linter.all false
set_option maxRecDepth 100000
set_option maxHeartbeats 2000000
namespace DL
open PySem PySem.Spec PyProof.Rows L2
theorem depth_nums : ∀ xs : List Int, NestedKey.depthAll (xs.map .num) = 0
  | [] => rfl
  | x :: xs => by rw [List.map_cons, NestedKey.depthAll, depth_nums xs]; rfl
theorem kk_T (xs : List Int) : (T xs).kk = some (keyT xs) := by
  show (match (T xs).key with | some k => if k.depth ≤ 8 then some k else none | none => none) = _
  rw [key_T]
  show (if (keyT xs).depth ≤ 8 then some (keyT xs) else none) = _
  rw [if_pos (by unfold keyT; rw [NestedKey.depth, depth_nums]; omega)]
/-- the multiples' places -/
def plc (ws s : List Int) (a : Nat) : List (D × D) := (List.range a).map fun i => (T (pTimes ws s ((i : Nat) + 1)), .int ((i : Nat) + 1))
def pFind (ws s : List Int) (a : Nat) (x : List Int) : Option Nat := (List.range a).find? fun i => decide (pTimes ws s ((i : Nat) + 1) = x)
theorem kget_map {ws s x : List Int} : ∀ l : List Nat, kget (l.map fun i => (T (pTimes ws s ((i : Nat) + 1)), D.int ((i : Nat) + 1))) (keyT x) = (l.find? fun i => decide (pTimes ws s ((i : Nat) + 1) = x)).map fun i => D.int ((i : Nat) + 1)
  | [] => rfl
  | i :: l => by
    rw [List.map_cons, kget, key_T]
    by_cases h : pTimes ws s ((i : Nat) + 1) = x
    · rw [if_pos (by rw [h]), List.find?_cons_of_pos (by simp [h])]
      rfl
    · rw [if_neg (fun z => h (keyT_inj (Option.some.inj z))), List.find?_cons_of_neg (by simp [h])]
      exact kget_map l
theorem kget_plc {ws s x : List Int} {a : Nat} : kget (plc ws s a) (keyT x) = (pFind ws s a x).map fun i => D.int ((i : Nat) + 1) := kget_map _
theorem pFind_some {ws s x : List Int} {a i : Nat} (h : pFind ws s a x = some i) : i < a ∧ pTimes ws s ((i : Nat) + 1) = x := by
  unfold pFind at h
  exact ⟨List.mem_range.mp (List.mem_of_find?_eq_some h), by simpa using List.find?_some h⟩
theorem pFind_new {ws s : List Int} {k a : Nat} (hw : ∀ w ∈ ws, 0 < w) (hs : St ws s) (h : Ordk ws s k) (ha : a < k) : pFind ws s a (pTimes ws s ((a : Nat) + 1)) = none := by
  unfold pFind
  rw [List.find?_eq_none]
  intro i hi
  have hi' := List.mem_range.mp hi
  have := times_inj hw hs h (i := i + 1) (j := a + 1) (by omega) (by omega) (by omega)
  simpa using this
theorem kput_plc {ws s : List Int} {k a : Nat} (hw : ∀ w ∈ ws, 0 < w) (hs : St ws s) (h : Ordk ws s k) (ha : a < k) : kput (plc ws s a) (keyT (pTimes ws s ((a : Nat) + 1))) (T (pTimes ws s ((a : Nat) + 1))) (.int ((a : Nat) + 1)) = plc ws s (a + 1) := by
  unfold kput
  rw [kget_plc, pFind_new hw hs h ha]
  rw [if_neg (by simp)]
  unfold plc
  rw [List.range_succ, List.map_append]
  rfl
theorem st_putK {i : Nat} {f h : Act D} {g : GS} {ρ : DEnv} {kvs : List (D × D)} {d kd : D} {n : NestedKey} {o : Out} (h0 : getK i ρ = some kvs) (hf : To f ρ d ρ) (hk : To h ρ kd ρ) (hn : kd.kk = some n) (hl : kvs.length ≤ 16000000) (k : g (ρ.set i (some (.k (kput kvs n kd d)))) = o) : gSeq (gPutK i f h) g ρ = o := by
  unfold To at hf hk
  unfold gSeq gPutK gOf
  rw [hf]
  dsimp only
  rw [h0]
  dsimp only
  rw [hk]
  dsimp only
  rw [h0, hn]
  dsimp only
  rw [if_pos hl]
  exact k
/-- the numbers by which a row is a step's multiples -/
def pNums (ws s : List Int) (row : List (List Int)) : Option (List Int) := if (row.all fun x => (pFind ws s (pK ws s) x).isSome) = true then some (row.map fun x => (((pFind ws s (pK ws s) x).getD 0 : Nat) : Int) + 1) else none
def nbE (ws : List Int) (row : List (List Int)) (s : List Int) (a : Nat) : DEnv := [some (.d (T ws)), some (.d (.tup (row.map T))), some (.d (T s)), some (.k (plc ws s a)), some (.d (T (pTimes ws s ((a : Nat) + 1)))), some (.d (.int ((a : Nat) + 1))), none, none]
theorem itr_succ : ∀ (k a : Nat), itr (fun x => x + 1) k a = a + k
  | 0, a => rfl
  | k + 1, a => by rw [itr, itr_succ k (a + 1)]; omega
def getN (ws s : List Int) (x : List Int) : D := ((pFind ws s (pK ws s) x).map fun i => D.int ((i : Nat) + 1)).getD .non
theorem sh_getN {ws s x : List Int} : Sh 0 (getN ws s x) := by
  unfold getN
  cases pFind ws s (pK ws s) x with
  | none => exact sh_non
  | some i => exact sh_int
theorem any_non {ws s : List Int} : ∀ row : List (List Int), ((D.pys (row.map (getN ws s))).any fun z => PyData.eqv z PyData.none) = !(row.all fun x => (pFind ws s (pK ws s) x).isSome)
  | [] => rfl
  | x :: row => by
    rw [List.map_cons, D.pys, List.any_cons, any_non row, List.all_cons, Bool.not_and]
    congr 1
    unfold getN
    cases pFind ws s (pK ws s) x with
    | none => rfl
    | some i => rfl
theorem numbers_eq {ws s : List Int} {row : List (List Int)} (h : OkW ws) (hs : s ∈ pSteps ws) (hl : row.length ≤ 1000000) : ∃ ρ, RD.F_numbers_by [.d (T ws), .d (.tup (row.map T)), .d (T s)] = .ok (match pNums ws s row with | some ns => T ns | none => .non) ρ := by
  obtain ⟨hk, ho⟩ := h.ord s hs
  have hst := h.st s hs
  have hp := h.pos'
  obtain ⟨q1, q2⟩ := ordk_times hp hst ho
  obtain ⟨_, e⟩ := wh_iter (c := cB (a2 (dEq true) (aV 4) (aCall 1 RD.F_home (aCons (aV 0) aNil)))) (g := gSeq (gPutK 3 (aV 5) (aV 4)) (gPar 4 5 (aCons (aCall 3 RD.F_added (aCons (aV 0) (aCons (aV 4) (aCons (aV 2) aNil)))) (aCons (a2 dAdd (aV 5) (aC (.int 1))) aNil))))
    (fun (a : Nat) (_ : Unit) => nbE ws row s a) (fun a => a ≤ pK ws s) (fun a => !decide (pTimes ws s ((a : Nat) + 1) = pHome ws)) (fun a => a + 1)
    (fun a _ _ => to_cB (to_2 (to_V (d := T (pTimes ws s ((a : Nat) + 1))) rfl) (to_call (to_cons (to_V (d := T ws) rfl) to_nil) rfl (home_eq (by have := h.len; omega))) (by rw [dEq_T, Bool.true_xor])))
    (fun a _ ha hp' => by
      have ha2 : a < pK ws s := by
        rcases Nat.lt_or_eq_of_le ha with z | z
        · exact z
        · subst z; rw [q2] at hp'; simp at hp'
      refine ⟨ha2, (), ?_⟩
      refine st_putK (i := 3) (ρ := nbE ws row s a) (kvs := plc ws s a) rfl (to_V (d := .int ((a : Nat) + 1)) rfl) (to_V (d := T (pTimes ws s ((a : Nat) + 1))) rfl) (kk_T _) (by unfold plc; rw [List.length_map, List.length_range]; omega) ?_
      rw [kput_plc hp hst ho ha2]
      have hadd := added_eq (ws := ws) (as := pTimes ws s ((a : Nat) + 1)) (bs := s) h.nz (by have := h.len; omega)
      rw [pAdd_times hp] at hadd
      have e2 : (((a + 1 : Nat) : Int) + 1) = (a : Int) + 1 + 1 := by omega
      rw [← e2] at hadd
      exact (par_nx (ρ1 := (nbE ws row s a).set 3 (some (.k (plc ws s (a + 1))))) (d := T (pTimes ws s (((a + 1 : Nat) : Int) + 1))) (e := .int (((a + 1 : Nat) : Int) + 1)) (to_cons (to_call (to_cons (to_V (d := T ws) rfl) (to_cons (to_V (d := T (pTimes ws s ((a : Nat) + 1))) rfl) (to_cons (to_V (d := T s) rfl) to_nil))) rfl hadd) (to_cons (to_2 (to_V (d := .int ((a : Nat) + 1)) rfl) to_C (by show some (D.int ((a : Int) + 1 + 1)) = _; rw [e2])) to_nil))).trans rfl)
    (pK ws s) 1000 0 () (Nat.zero_le _) (by omega) (fun i hi => by
      rw [itr_succ, Nat.zero_add]
      have := q1 (i + 1) (by omega) (by omega)
      have e2 : ((i + 1 : Nat) : Int) = (i : Int) + 1 := by omega
      rw [e2] at this
      simp [this]) (by
      rw [itr_succ, Nat.zero_add]
      simp [q2])
  rw [itr_succ, Nat.zero_add] at e
  unfold RD.F_numbers_by RD.g_numbers_by
  have e0 : gPar3K 3 4 5 (aCons (aV 2) (aCons (aC (.int 1)) aNil)) [some (.d (T ws)), some (.d (.tup (row.map T))), some (.d (T s)), none, none, none, none, none] = .nx (nbE ws row s 0) := by
    have q : To (aCons (aV 2) (aCons (aC (.int 1)) aNil)) [some (.d (T ws)), some (.d (.tup (row.map T))), some (.d (T s)), none, none, none, none, none] [T s, .int 1] [some (.d (T ws)), some (.d (.tup (row.map T))), some (.d (T s)), none, none, none, none, none] := to_cons (to_V rfl) (to_cons to_C to_nil)
    unfold To at q
    unfold gPar3K
    rw [q]
    show Out.nx _ = Out.nx (nbE ws row s 0)
    unfold nbE
    have e1 : pTimes ws s (((0 : Nat) : Int) + 1) = s := pTimes_one hst.1 hst.2
    rw [e1]
    rfl
  have hcomp : To (aComp [7] (aI (aV 1)) (tgN 7) cYes (aGet1 (aV 3) (aV 7))) [some (.d (T ws)), some (.d (.tup (row.map T))), some (.d (T s)), some (.d (.dct (plc ws s (pK ws s)))), some (.d (T (pTimes ws s ((pK ws s : Nat) + 1)))), some (.d (.int ((pK ws s : Nat) + 1))), none, none] (row.map (getN ws s)) [some (.d (T ws)), some (.d (.tup (row.map T))), some (.d (T s)), some (.d (.dct (plc ws s (pK ws s)))), some (.d (T (pTimes ws s ((pK ws s : Nat) + 1)))), some (.d (.int ((pK ws s : Nat) + 1))), none, none] := by
    have := to_map (vs := [7]) (t := tgN 7) (f := aGet1 (aV 3) (aV 7)) (ρ := [some (.d (T ws)), some (.d (.tup (row.map T))), some (.d (T s)), some (.d (.dct (plc ws s (pK ws s)))), some (.d (T (pTimes ws s ((pK ws s : Nat) + 1)))), some (.d (.int ((pK ws s : Nat) + 1))), none, none]) (fi := aI (aV 1)) (ds := row.map T)
      (fun d => match d.kk with | some n => (kget (plc ws s (pK ws s)) n).getD .non | none => .non) (to_bind (to_V (d := .tup (row.map T)) rfl) (to_lift rfl)) rfl (by rw [List.length_map]; omega) (fun d hd => by
        obtain ⟨x, hx, rfl⟩ := List.mem_map.mp hd
        refine ⟨[some (.d (T ws)), some (.d (.tup (row.map T))), some (.d (T s)), some (.d (.dct (plc ws s (pK ws s)))), some (.d (T (pTimes ws s ((pK ws s : Nat) + 1)))), some (.d (.int ((pK ws s : Nat) + 1))), none, some (.d (T x))], rfl, ?_, rfl⟩
        refine to_bind (to_V (d := .dct (plc ws s (pK ws s))) rfl) (to_bind (to_lift rfl) (to_bind (to_V (d := T x) rfl) (to_lift ?_)))
        unfold dGet
        rw [kk_T]
        rfl)
    rw [List.map_map] at this
    have e3 : (row.map ((fun d : D => match d.kk with | some n => (kget (plc ws s (pK ws s)) n).getD .non | none => .non) ∘ T)) = row.map (getN ws s) := by
      apply List.map_congr_left
      intro x _
      show (match (T x).kk with | some n => (kget (plc ws s (pK ws s)) n).getD .non | none => .non) = _
      rw [kk_T]
      show (kget (plc ws s (pK ws s)) (keyT x)).getD .non = _
      rw [kget_plc]
      rfl
    rw [e3] at this
    exact this
  have hin : To (cB (a2 (dIn false) (aC .non) (aV 6))) [some (.d (T ws)), some (.d (.tup (row.map T))), some (.d (T s)), some (.d (.dct (plc ws s (pK ws s)))), some (.d (T (pTimes ws s ((pK ws s : Nat) + 1)))), some (.d (.int ((pK ws s : Nat) + 1))), some (.d (.lst (row.map (getN ws s)))), none] (!(row.all fun x => (pFind ws s (pK ws s) x).isSome)) [some (.d (T ws)), some (.d (.tup (row.map T))), some (.d (T s)), some (.d (.dct (plc ws s (pK ws s)))), some (.d (T (pTimes ws s ((pK ws s : Nat) + 1)))), some (.d (.int ((pK ws s : Nat) + 1))), some (.d (.lst (row.map (getN ws s)))), none] := by
    refine to_cB (to_2 to_C (to_V rfl) ?_)
    unfold dIn
    have hsh : (D.non.sh && (D.lst (row.map (getN ws s))).sh) = true := by
      rw [(sh_lst (n := 0) fun x hx => by obtain ⟨y, _, rfl⟩ := List.mem_map.mp hx; exact sh_getN).sh (by omega)]
      rfl
    rw [if_pos hsh]
    show some (D.bl ((D.pys (row.map (getN ws s))).any fun z => PyData.eqv z PyData.none)) = _
    rw [any_non]
  refine ⟨[some (.d (T ws)), some (.d (.tup (row.map T))), some (.d (T s)), some (.d (.dct (plc ws s (pK ws s)))), some (.d (T (pTimes ws s ((pK ws s : Nat) + 1)))), some (.d (.int ((pK ws s : Nat) + 1))), some (.d (.lst (row.map (getN ws s)))), none], fn_ok (ρ := [some (.d (T ws)), some (.d (.tup (row.map T))), some (.d (T s)), none, none, none, none, none]) rfl ?_⟩
  have seqnx : ∀ {g h : GS} {ρ ρ1 : DEnv} {o : Out}, g ρ = .nx ρ1 → h ρ1 = o → gSeq g h ρ = o := fun {g h ρ ρ1 o} e1 e2 => by unfold gSeq; rw [e1]; exact e2
  refine seqnx e0 (st_wh e ?_)
  show gSeq (gSet 6 (aLst _)) _ [some (.d (T ws)), some (.d (.tup (row.map T))), some (.d (T s)), some (.d (.dct (plc ws s (pK ws s)))), some (.d (T (pTimes ws s ((pK ws s : Nat) + 1)))), some (.d (.int ((pK ws s : Nat) + 1))), none, none] = _
  refine st_set (to_bind hcomp rfl) (st_last (st_ret ?_))
  unfold pNums
  cases hall : row.all fun x => (pFind ws s (pK ws s) x).isSome with
  | false =>
    rw [if_neg (by simp)]
    rw [hall] at hin
    exact to_if_t hin to_C
  | true =>
    rw [if_pos rfl]
    rw [hall] at hin
    refine to_if_f hin (to_N (to_cons (to_V rfl) to_nil) ?_)
    show some (D.tup (row.map (getN ws s))) = some (T _)
    congr 2
    rw [List.map_map]
    apply List.map_congr_left
    intro x hx
    have := List.all_eq_true.mp hall x hx
    obtain ⟨i, hi⟩ := Option.isSome_iff_exists.mp this
    show getN ws s x = D.int ((((pFind ws s (pK ws s) x).getD 0 : Nat) : Int) + 1)
    unfold getN
    rw [hi]
    rfl
end DL
end
section
set_option Elab.async false
set_option linter.all false
set_option maxRecDepth 100000
set_option maxHeartbeats 2000000
namespace DL
open PySem PySem.Spec PyProof.Rows L2
def tellOf (ws : List Int) (row : List (List Int)) (s : List Int) : Option (List Int × List Int) := match pNums ws s row with
  | some ns => if ns.sum < (pK ws s : Int) + 1 then some (s, ns) else none
  | none => none
def pTell (ws : List Int) (row : List (List Int)) : List (List Int × List Int) := (pSteps ws).filterMap (tellOf ws row)
def tellD (p : List Int × List Int) : D := .tup [T p.1, T p.2]
theorem ints_of_map : ∀ ns : List Int, D.ints (ns.map .int) = some ns
  | [] => rfl
  | n :: ns => by rw [List.map_cons, D.ints, ints_of_map ns]; rfl
theorem dSum_T (ns : List Int) : dSum [T ns] = some (.int ns.sum) := by
  show (D.ints (ns.map .int)).map (fun ns => D.int ns.sum) = _
  rw [ints_of_map]
  rfl
theorem st_app {i : Nat} {f : Act D} {g : GS} {ρ ρ1 : DEnv} {xs0 xs : List D} {d : D} {o : Out} (h0 : getL i ρ = some xs0) (hf : To f ρ d ρ1) (h1 : getL i ρ1 = some xs) (hl : xs.length < 16000000) (k : g (ρ1.set i (some (.l (xs ++ [d])))) = o) : gSeq (gApp i f) g ρ = o := by
  unfold To at hf
  unfold gSeq gApp gOf
  rw [h0]
  dsimp only
  rw [hf]
  dsimp only
  rw [h1]
  dsimp only
  rw [if_pos hl]
  exact k
theorem seq_nx {g h : GS} {ρ ρ1 : DEnv} {o : Out} (e1 : g ρ = .nx ρ1) (e2 : h ρ1 = o) : gSeq g h ρ = o := by unfold gSeq; rw [e1]; exact e2
theorem tellers_eq {ws : List Int} {row : List (List Int)} (h : OkW ws) (hl : row.length ≤ 1000000) : ∃ ρ, RD.F_tellers_of [.d (T ws), .d (.tup (row.map T))] = .ok (.lst ((pTell ws row).map tellD)) ρ := by
  obtain ⟨ρs, es⟩ := h.all
  obtain ⟨ρ', e, done, left, e1, e2, o3, o4, rfl⟩ := for_inv (t := tgN 3) (g := gSeq (gSet 4 (aCall 3 RD.F_numbers_by (aCons (aV 0) (aCons (aV 1) (aCons (aV 3) aNil))))) (gIf (cAnd (cB (a2 (dIsN true) (aV 4) (aC .non))) (cB (a2 (dCmpI (fun i j => decide (i < j))) (aN dSum (aCons (aV 4) aNil)) (aCall 2 RD.F_order_of (aCons (aV 0) (aCons (aV 3) aNil)))))) (gApp 2 (aN dTup (aCons (aV 3) (aCons (aV 4) aNil)))) gNext))
    (fun rest ρ => ∃ done left, pSteps ws = done ++ left ∧ rest = left.map T ∧ ∃ o3 o4, ρ = [some (.d (T ws)), some (.d (.tup (row.map T))), some (.l ((done.filterMap (tellOf ws row)).map tellD)), o3, o4])
    ((pSteps ws).map T) [some (.d (T ws)), some (.d (.tup (row.map T))), some (.l []), none, none] (fun d rest ρ ⟨done, left, e1, e2, o3, o4, e3⟩ => by
      subst e3
      cases left with
      | nil => cases e2
      | cons s left =>
        rw [List.map_cons] at e2
        obtain ⟨rfl, rfl⟩ := List.cons.inj e2
        have hs : s ∈ pSteps ws := by rw [e1]; simp
        obtain ⟨ρn, en⟩ := numbers_eq h hs hl
        obtain ⟨hk, ho⟩ := h.ord s hs
        obtain ⟨ρo, eo⟩ := order_eq h.nz (by have := h.len; omega) (by omega) ho
        have hlen : (done.filterMap (tellOf ws row)).length < 16000000 := by
          have a1 := List.length_filterMap_le (tellOf ws row) done
          have a2 := h.few
          rw [e1, List.length_append] at a2
          omega
        refine ⟨[some (.d (T ws)), some (.d (.tup (row.map T))), some (.l ((done.filterMap (tellOf ws row)).map tellD)), some (.d (T s)), o4], [some (.d (T ws)), some (.d (.tup (row.map T))), some (.l (((done ++ [s]).filterMap (tellOf ws row)).map tellD)), some (.d (T s)), some (.d (match pNums ws s row with | some ns => T ns | none => .non))], rfl, ?_, done ++ [s], left, by rw [e1]; simp, rfl, _, _, rfl⟩
        refine st_set (to_call (to_cons (to_V (d := T ws) rfl) (to_cons (to_V (d := .tup (row.map T)) rfl) (to_cons (to_V (d := T s) rfl) to_nil))) rfl en) (st_last ?_)
        rw [List.filterMap_append, List.filterMap_cons, List.filterMap_nil]
        unfold tellOf
        cases hn : pNums ws s row with
        | none =>
          dsimp only
          rw [List.append_nil]
          refine st_if_f (to_and_f (to_cB (to_2 (to_V (d := .non) ?_) to_C rfl))) (st_next st_end)
          rfl
        | some ns =>
          dsimp only
          have ts : To (cB (a2 (dIsN true) (aV 4) (aC .non))) [some (.d (T ws)), some (.d (.tup (row.map T))), some (.l ((done.filterMap (tellOf ws row)).map tellD)), some (.d (T s)), some (.d (T ns))] true [some (.d (T ws)), some (.d (.tup (row.map T))), some (.l ((done.filterMap (tellOf ws row)).map tellD)), some (.d (T s)), some (.d (T ns))] := to_cB (to_2 (to_V (d := T ns) rfl) to_C rfl)
          have tc : To (a2 (dCmpI (fun i j => decide (i < j))) (aN dSum (aCons (aV 4) aNil)) (aCall 2 RD.F_order_of (aCons (aV 0) (aCons (aV 3) aNil)))) [some (.d (T ws)), some (.d (.tup (row.map T))), some (.l ((done.filterMap (tellOf ws row)).map tellD)), some (.d (T s)), some (.d (T ns))] (.bl (decide (ns.sum < (pK ws s : Int) + 1))) [some (.d (T ws)), some (.d (.tup (row.map T))), some (.l ((done.filterMap (tellOf ws row)).map tellD)), some (.d (T s)), some (.d (T ns))] :=
            to_2 (to_N (to_cons (to_V (d := T ns) rfl) to_nil) (dSum_T ns)) (to_call (to_cons (to_V (d := T ws) rfl) (to_cons (to_V (d := T s) rfl) to_nil)) rfl eo) rfl
          by_cases hc : ns.sum < (pK ws s : Int) + 1
          · rw [decide_eq_true hc] at tc
            rw [if_pos hc]
            refine st_if_t (to_and_t ts (to_cB tc)) (st_app (xs := (done.filterMap (tellOf ws row)).map tellD) rfl (to_N (to_cons (to_V (d := T s) rfl) (to_cons (to_V (d := T ns) rfl) to_nil)) rfl) rfl (by rw [List.length_map]; exact hlen) ?_)
            rw [List.map_append]
            rfl
          · rw [decide_eq_false hc] at tc
            rw [if_neg hc, List.append_nil]
            exact st_if_f (to_and_t ts (to_cB tc)) (st_next st_end)) ⟨[], pSteps ws, rfl, rfl, none, none, rfl⟩
  have e4 : left = [] := by
    cases left with
    | nil => rfl
    | cons a b => cases e2
  subst e4
  rw [List.append_nil] at e1
  unfold RD.F_tellers_of RD.g_tellers_of
  refine ⟨[some (.d (T ws)), some (.d (.tup (row.map T))), some (.d (.lst ((done.filterMap (tellOf ws row)).map tellD))), o3, o4], fn_ok (ρ := [some (.d (T ws)), some (.d (.tup (row.map T))), none, none, none]) rfl ?_⟩
  refine seq_nx (ρ1 := [some (.d (T ws)), some (.d (.tup (row.map T))), some (.l []), none, none]) rfl ?_
  refine st_for (to_bind (to_call (to_cons (to_V (d := T ws) rfl) to_nil) rfl es) (to_lift rfl)) e ?_
  refine st_last ?_
  show gSeq (gRet (aV 2)) gNext [some (.d (T ws)), some (.d (.tup (row.map T))), some (.d (.lst ((done.filterMap (tellOf ws row)).map tellD))), o3, o4] = _
  unfold pTell
  rw [e1]
  exact st_ret (to_V rfl)
end DL
end
section
set_option Elab.async false
set_option linter.all false
set_option maxRecDepth 100000
set_option maxHeartbeats 2000000
namespace DL
open PySem PySem.Spec PyProof.Rows L2
/-- the law's list of multiples -/
def lplc (ws s : List Int) (k : Nat) : List D := (List.range k).map fun i => T (pTimes ws s ((i : Nat) + 1))
theorem range2_one {k : Nat} (h : k ≤ 1000) : opRange2 [.int 1, .int ((k : Int) + 1)] = some ((List.range k).map fun i => D.int ((i : Nat) + 1)) := by
  unfold opRange2
  dsimp only
  rw [if_pos ⟨by omega, by omega, by omega, by omega⟩]
  have e : ((k : Int) + 1 - 1).toNat = k := by omega
  rw [e, upTo_range]
  congr 1
  apply List.map_congr_left
  intro i _
  rw [Int.add_comm]
theorem any_plc {ws s x : List Int} : ∀ l : List Nat, ((D.pys (l.map fun i => T (pTimes ws s ((i : Nat) + 1)))).any fun z => PyData.eqv z (T x).py) = (l.find? fun i => decide (pTimes ws s ((i : Nat) + 1) = x)).isSome
  | [] => rfl
  | i :: l => by
    rw [List.map_cons, D.pys, List.any_cons, any_plc l, eqv_T]
    by_cases h : pTimes ws s ((i : Nat) + 1) = x
    · rw [List.find?_cons_of_pos (by simp [h]), decide_eq_true h]; rfl
    · rw [List.find?_cons_of_neg (by simp [h]), decide_eq_false h, Bool.false_or]
theorem idx_plc {ws s x : List Int} : ∀ (n j : Nat), idxD (T x).py (D.pys ((List.range' j n).map fun i => T (pTimes ws s ((i : Nat) + 1)))) j = (List.range' j n).find? fun i => decide (pTimes ws s ((i : Nat) + 1) = x)
  | 0, j => rfl
  | n + 1, j => by
    rw [List.range'_succ, List.map_cons, D.pys, idxD, eqv_T]
    by_cases h : pTimes ws s ((j : Nat) + 1) = x
    · rw [if_pos (by simp [h]), List.find?_cons_of_pos (by simp [h])]
    · rw [if_neg (by simp [h]), List.find?_cons_of_neg (by simp [h])]
      exact idx_plc n (j + 1)
theorem sh_lplc {ws s : List Int} {k : Nat} : ∀ x ∈ lplc ws s k, Sh 1 x := fun x hx => by
  obtain ⟨i, _, rfl⟩ := List.mem_map.mp hx
  exact sh_T _
theorem notIn_plc {ws s x : List Int} {k : Nat} : dIn true (T x) (.lst (lplc ws s k)) = some (.bl (!(pFind ws s k x).isSome)) := by
  unfold dIn
  rw [if_pos (by rw [(sh_T x).sh (by omega), (sh_lst sh_lplc).sh (by omega)]; rfl)]
  show some (D.bl (!((D.pys (lplc ws s k)).any fun z => PyData.eqv z (T x).py))) = _
  unfold lplc pFind
  rw [any_plc]
theorem index_plc {ws s x : List Int} {k i : Nat} (h : pFind ws s k x = some i) : dIndex (.lst (lplc ws s k)) (T x) = some (.int i) := by
  unfold dIndex
  dsimp only
  rw [if_pos ⟨(sh_lst sh_lplc).sh (by omega), (sh_T x).sh (by omega)⟩]
  unfold lplc
  rw [List.range_eq_range', idx_plc]
  unfold pFind at h
  rw [List.range_eq_range'] at h
  rw [h]
  rfl
theorem ltellers_eq {ws : List Int} {row : List (List Int)} (h : OkW ws) (hl : row.length ≤ 1000000) : ∃ ρ, RD.F__law_tellers [.d (T ws), .d (.tup (row.map T))] = .ok (.lst ((pTell ws row).map tellD)) ρ := by
  obtain ⟨ρs, es⟩ := h.lall
  obtain ⟨ρ', e, done, left, e1, e2, o3, o4, o5, o8, rfl⟩ := for_inv (t := tgN 3) (g := gSeq (gSet 4 (aCall 2 RD.F__law_order (aCons (aV 0) (aCons (aV 3) aNil)))) (gSeq (gSet 5 (aLst (aComp [6] (aIN opRange2 (aCons (aC (.int 1)) (aCons (aV 4) aNil))) (tgN 6) cYes (aCall 3 RD.F__law_times (aCons (aV 0) (aCons (aV 3) (aCons (aV 6) aNil)))))))
    (gIf (cB (a2 (dEq false) (aLst (aComp [7] (aI (aV 1)) (tgN 7) (cB (a2 (dIn true) (aV 7) (aV 5))) (aV 7))) (aLst (fLst aNil)))) (gSeq (gSet 8 (aN dTuple (aCons (aLst (aComp [7] (aI (aV 1)) (tgN 7) cYes (a2 dAdd (aC (.int 1)) (aIndex (aV 5) (aV 7))))) aNil)))
    (gIf (cB (a2 (dCmpI (fun i j => decide (i < j))) (aN dSum (aCons (aV 8) aNil)) (aV 4))) (gApp 2 (aN dTup (aCons (aV 3) (aCons (aV 8) aNil)))) gNext)) gNext)))
    (fun rest ρ => ∃ done left, pSteps ws = done ++ left ∧ rest = left.map T ∧ ∃ o3 o4 o5 o8, ρ = [some (.d (T ws)), some (.d (.tup (row.map T))), some (.l ((done.filterMap (tellOf ws row)).map tellD)), o3, o4, o5, none, none, o8])
    ((pSteps ws).map T) [some (.d (T ws)), some (.d (.tup (row.map T))), some (.l []), none, none, none, none, none, none] (fun d rest ρ ⟨done, left, e1, e2, o3, o4, o5, o8, e3⟩ => by
      subst e3
      cases left with
      | nil => cases e2
      | cons s left =>
        rw [List.map_cons] at e2
        obtain ⟨rfl, rfl⟩ := List.cons.inj e2
        have hs : s ∈ pSteps ws := by rw [e1]; simp
        obtain ⟨hk, ho⟩ := h.ord s hs
        have hst := h.st s hs
        obtain ⟨ρo, eo⟩ := lorder_eq h.nz (by have := h.len; omega) hst.1 (by omega) ho
        have hb : ∀ x ∈ s, -(2 ^ 64) < x ∧ x < 2 ^ 64 := fun x hx => by have := hst.bound (fun w hw => (h.ge w hw).2) x hx; omega
        have hlen : (done.filterMap (tellOf ws row)).length < 16000000 := by
          have a1 := List.length_filterMap_le (tellOf ws row) done
          have a2 := h.few
          rw [e1, List.length_append] at a2
          omega
        -- the multiples
        have hp : To (aComp [6] (aIN opRange2 (aCons (aC (.int 1)) (aCons (aV 4) aNil))) (tgN 6) cYes (aCall 3 RD.F__law_times (aCons (aV 0) (aCons (aV 3) (aCons (aV 6) aNil))))) [some (.d (T ws)), some (.d (.tup (row.map T))), some (.l ((done.filterMap (tellOf ws row)).map tellD)), some (.d (T s)), some (.d (.int ((pK ws s : Int) + 1))), o5, none, none, o8] (lplc ws s (pK ws s)) [some (.d (T ws)), some (.d (.tup (row.map T))), some (.l ((done.filterMap (tellOf ws row)).map tellD)), some (.d (T s)), some (.d (.int ((pK ws s : Int) + 1))), o5, none, none, o8] := by
          have := to_map (vs := [6]) (t := tgN 6) (f := aCall 3 RD.F__law_times (aCons (aV 0) (aCons (aV 3) (aCons (aV 6) aNil)))) (ρ := [some (.d (T ws)), some (.d (.tup (row.map T))), some (.l ((done.filterMap (tellOf ws row)).map tellD)), some (.d (T s)), some (.d (.int ((pK ws s : Int) + 1))), o5, none, none, o8]) (fi := aIN opRange2 (aCons (aC (.int 1)) (aCons (aV 4) aNil))) (ds := (List.range (pK ws s)).map fun i => D.int ((i : Nat) + 1))
            (fun d => match d with | .int n => T (pTimes ws s n) | _ => .non) (to_bind (to_cons to_C (to_cons (to_V (d := .int ((pK ws s : Int) + 1)) rfl) to_nil)) (to_lift (range2_one (by omega)))) rfl (by simp; omega) (fun d hd => by
              obtain ⟨i, hi, rfl⟩ := List.mem_map.mp hd
              exact ⟨[some (.d (T ws)), some (.d (.tup (row.map T))), some (.l ((done.filterMap (tellOf ws row)).map tellD)), some (.d (T s)), some (.d (.int ((pK ws s : Int) + 1))), o5, some (.d (.int ((i : Nat) + 1))), none, o8], rfl, to_call (to_cons (to_V (d := T ws) rfl) (to_cons (to_V (d := T s) rfl) (to_cons (to_V (d := .int ((i : Nat) + 1)) rfl) to_nil))) rfl (ltimes_eq h.nz (by have := h.len; omega) hst.1 hb), rfl⟩)
          rw [List.map_map] at this
          exact this
        -- the steps that are none
        have hf : ∀ o8 : Option Cell, To (aComp [7] (aI (aV 1)) (tgN 7) (cB (a2 (dIn true) (aV 7) (aV 5))) (aV 7)) [some (.d (T ws)), some (.d (.tup (row.map T))), some (.l ((done.filterMap (tellOf ws row)).map tellD)), some (.d (T s)), some (.d (.int ((pK ws s : Int) + 1))), some (.d (.lst (lplc ws s (pK ws s)))), none, none, o8] ((row.filter fun x => !(pFind ws s (pK ws s) x).isSome).map T) [some (.d (T ws)), some (.d (.tup (row.map T))), some (.l ((done.filterMap (tellOf ws row)).map tellD)), some (.d (T s)), some (.d (.int ((pK ws s : Int) + 1))), some (.d (.lst (lplc ws s (pK ws s)))), none, none, o8] := fun o8 => by
          have := to_filter (vs := [7]) (t := tgN 7) (c := cB (a2 (dIn true) (aV 7) (aV 5))) (f := aV 7) (ρ := [some (.d (T ws)), some (.d (.tup (row.map T))), some (.l ((done.filterMap (tellOf ws row)).map tellD)), some (.d (T s)), some (.d (.int ((pK ws s : Int) + 1))), some (.d (.lst (lplc ws s (pK ws s)))), none, none, o8]) (fi := aI (aV 1)) (ds := row.map T)
            (fun d => match dIn true d (.lst (lplc ws s (pK ws s))) with | some (.bl b) => b | _ => false) id (to_bind (to_V (d := .tup (row.map T)) rfl) (to_lift rfl)) rfl (by rw [List.length_map]; omega) (fun d hd => by
              obtain ⟨x, hx, rfl⟩ := List.mem_map.mp hd
              refine ⟨[some (.d (T ws)), some (.d (.tup (row.map T))), some (.l ((done.filterMap (tellOf ws row)).map tellD)), some (.d (T s)), some (.d (.int ((pK ws s : Int) + 1))), some (.d (.lst (lplc ws s (pK ws s)))), none, some (.d (T x)), o8], rfl, ?_, fun _ => to_V rfl, rfl⟩
              rw [notIn_plc]
              exact to_cB (to_2 (to_V (d := T x) rfl) (to_V (d := .lst (lplc ws s (pK ws s))) rfl) notIn_plc))
          rw [List.map_id, List.filter_map] at this
          have e5 : (row.filter ((fun d : D => match dIn true d (.lst (lplc ws s (pK ws s))) with | some (.bl b) => b | _ => false) ∘ T)) = row.filter fun x => !(pFind ws s (pK ws s) x).isSome := by
            apply List.filter_congr
            intro x _
            show (match dIn true (T x) (.lst (lplc ws s (pK ws s))) with | some (.bl b) => b | _ => false) = _
            rw [notIn_plc]
          rw [e5] at this
          exact this
        have hfe : decide ((row.filter fun x => !(pFind ws s (pK ws s) x).isSome).map T = []) = row.all fun x => (pFind ws s (pK ws s) x).isSome := by
          rw [Bool.eq_iff_iff, decide_eq_true_iff, List.map_eq_nil_iff, List.filter_eq_nil_iff, List.all_eq_true]
          constructor
          · intro h x hx
            have q := h x hx
            cases hh : (pFind ws s (pK ws s) x).isSome with
            | true => rfl
            | false => rw [hh] at q; exact absurd rfl q
          · intro h x hx
            rw [h x hx]
            exact Bool.noConfusion
        have test : ∀ o8 : Option Cell, To (cB (a2 (dEq false) (aLst (aComp [7] (aI (aV 1)) (tgN 7) (cB (a2 (dIn true) (aV 7) (aV 5))) (aV 7))) (aLst (fLst aNil)))) [some (.d (T ws)), some (.d (.tup (row.map T))), some (.l ((done.filterMap (tellOf ws row)).map tellD)), some (.d (T s)), some (.d (.int ((pK ws s : Int) + 1))), some (.d (.lst (lplc ws s (pK ws s)))), none, none, o8] (row.all fun x => (pFind ws s (pK ws s) x).isSome) [some (.d (T ws)), some (.d (.tup (row.map T))), some (.l ((done.filterMap (tellOf ws row)).map tellD)), some (.d (T s)), some (.d (.int ((pK ws s : Int) + 1))), some (.d (.lst (lplc ws s (pK ws s)))), none, none, o8] := fun o8 =>
          to_cB (to_2 (to_bind (hf o8) rfl) (y := .lst []) (by rfl) (by
            rw [dEq_nil (n := 1) false (fun x hx => by obtain ⟨y, _, rfl⟩ := List.mem_map.mp hx; exact sh_T _) (by omega), Bool.false_xor, hfe]))
        refine ⟨[some (.d (T ws)), some (.d (.tup (row.map T))), some (.l ((done.filterMap (tellOf ws row)).map tellD)), some (.d (T s)), o4, o5, none, none, o8], [some (.d (T ws)), some (.d (.tup (row.map T))), some (.l (((done ++ [s]).filterMap (tellOf ws row)).map tellD)), some (.d (T s)), some (.d (.int ((pK ws s : Int) + 1))), some (.d (.lst (lplc ws s (pK ws s)))), none, none, match pNums ws s row with | some ns => some (.d (T ns)) | none => o8], rfl, ?_, done ++ [s], left, by rw [e1]; simp, rfl, _, _, _, _, rfl⟩
        refine st_set (to_call (to_cons (to_V (d := T ws) rfl) (to_cons (to_V (d := T s) rfl) to_nil)) rfl eo) (st_set (to_bind hp rfl) (st_last ?_))
        rw [List.filterMap_append, List.filterMap_cons, List.filterMap_nil]
        have tt := test o8
        unfold tellOf pNums
        cases hall : row.all fun x => (pFind ws s (pK ws s) x).isSome with
        | false =>
          rw [hall] at tt
          rw [if_neg (by simp)]
          dsimp only
          rw [List.append_nil]
          exact st_if_f tt (st_next st_end)
        | true =>
          rw [hall] at tt
          rw [if_pos rfl]
          dsimp only
          have hn : To (aComp [7] (aI (aV 1)) (tgN 7) cYes (a2 dAdd (aC (.int 1)) (aIndex (aV 5) (aV 7)))) [some (.d (T ws)), some (.d (.tup (row.map T))), some (.l ((done.filterMap (tellOf ws row)).map tellD)), some (.d (T s)), some (.d (.int ((pK ws s : Int) + 1))), some (.d (.lst (lplc ws s (pK ws s)))), none, none, o8] ((row.map fun x => (((pFind ws s (pK ws s) x).getD 0 : Nat) : Int) + 1).map .int) [some (.d (T ws)), some (.d (.tup (row.map T))), some (.l ((done.filterMap (tellOf ws row)).map tellD)), some (.d (T s)), some (.d (.int ((pK ws s : Int) + 1))), some (.d (.lst (lplc ws s (pK ws s)))), none, none, o8] := by
            have := to_map (vs := [7]) (t := tgN 7) (f := a2 dAdd (aC (.int 1)) (aIndex (aV 5) (aV 7))) (ρ := [some (.d (T ws)), some (.d (.tup (row.map T))), some (.l ((done.filterMap (tellOf ws row)).map tellD)), some (.d (T s)), some (.d (.int ((pK ws s : Int) + 1))), some (.d (.lst (lplc ws s (pK ws s)))), none, none, o8]) (fi := aI (aV 1)) (ds := row.map T)
              (fun d => match dIndex (.lst (lplc ws s (pK ws s))) d with | some (.int i) => .int (i + 1) | _ => .non) (to_bind (to_V (d := .tup (row.map T)) rfl) (to_lift rfl)) rfl (by rw [List.length_map]; omega) (fun d hd => by
                obtain ⟨x, hx, rfl⟩ := List.mem_map.mp hd
                obtain ⟨i, hi⟩ := Option.isSome_iff_exists.mp (List.all_eq_true.mp hall x hx)
                refine ⟨[some (.d (T ws)), some (.d (.tup (row.map T))), some (.l ((done.filterMap (tellOf ws row)).map tellD)), some (.d (T s)), some (.d (.int ((pK ws s : Int) + 1))), some (.d (.lst (lplc ws s (pK ws s)))), none, some (.d (T x)), o8], rfl, ?_, rfl⟩
                rw [index_plc hi]
                refine to_2 to_C (y := .int (i : Nat)) (to_bind (to_V (d := .lst (lplc ws s (pK ws s))) rfl) (to_bind (to_V (d := T x) rfl) (to_lift (index_plc hi)))) ?_
                show some (D.int (1 + (i : Int))) = _
                rw [Int.add_comm])
            rw [List.map_map] at this
            rw [List.map_map]
            have e6 : row.map ((fun d : D => match dIndex (.lst (lplc ws s (pK ws s))) d with | some (.int i) => D.int (i + 1) | _ => .non) ∘ T) = row.map (D.int ∘ fun x => (((pFind ws s (pK ws s) x).getD 0 : Nat) : Int) + 1) := by
              apply List.map_congr_left
              intro x hx
              obtain ⟨i, hi⟩ := Option.isSome_iff_exists.mp (List.all_eq_true.mp hall x hx)
              show (match dIndex (.lst (lplc ws s (pK ws s))) (T x) with | some (.int i) => D.int (i + 1) | _ => .non) = D.int ((((pFind ws s (pK ws s) x).getD 0 : Nat) : Int) + 1)
              rw [index_plc hi, hi]
              rfl
            rw [e6] at this
            exact this
          generalize (row.map fun x => (((pFind ws s (pK ws s) x).getD 0 : Nat) : Int) + 1) = ns at hn ⊢
          refine st_if_t tt (st_assoc (st_set (to_N (to_cons (to_bind hn rfl) to_nil) rfl) ?_))
          have tc : To (cB (a2 (dCmpI (fun i j => decide (i < j))) (aN dSum (aCons (aV 8) aNil)) (aV 4))) [some (.d (T ws)), some (.d (.tup (row.map T))), some (.l ((done.filterMap (tellOf ws row)).map tellD)), some (.d (T s)), some (.d (.int ((pK ws s : Int) + 1))), some (.d (.lst (lplc ws s (pK ws s)))), none, none, some (.d (T ns))] (decide (ns.sum < (pK ws s : Int) + 1)) [some (.d (T ws)), some (.d (.tup (row.map T))), some (.l ((done.filterMap (tellOf ws row)).map tellD)), some (.d (T s)), some (.d (.int ((pK ws s : Int) + 1))), some (.d (.lst (lplc ws s (pK ws s)))), none, none, some (.d (T ns))] :=
            to_cB (to_2 (to_N (to_cons (to_V (d := T ns) rfl) to_nil) (dSum_T ns)) (to_V (d := .int ((pK ws s : Int) + 1)) rfl) rfl)
          by_cases hc : ns.sum < (pK ws s : Int) + 1
          · rw [decide_eq_true hc] at tc
            rw [if_pos hc]
            refine st_if_t tc (st_app (xs := (done.filterMap (tellOf ws row)).map tellD) rfl (to_N (to_cons (to_V (d := T s) rfl) (to_cons (to_V (d := T ns) rfl) to_nil)) rfl) rfl (by rw [List.length_map]; exact hlen) ?_)
            rw [List.map_append]
            rfl
          · rw [decide_eq_false hc] at tc
            rw [if_neg hc, List.append_nil]
            exact st_if_f tc (st_next st_end)) ⟨[], pSteps ws, rfl, rfl, none, none, none, none, rfl⟩
  have e4 : left = [] := by
    cases left with
    | nil => rfl
    | cons a b => cases e2
  subst e4
  rw [List.append_nil] at e1
  unfold RD.F__law_tellers RD.g__law_tellers
  refine ⟨[some (.d (T ws)), some (.d (.tup (row.map T))), some (.d (.lst ((done.filterMap (tellOf ws row)).map tellD))), o3, o4, o5, none, none, o8], fn_ok (ρ := [some (.d (T ws)), some (.d (.tup (row.map T))), none, none, none, none, none, none, none]) rfl ?_⟩
  refine seq_nx (ρ1 := [some (.d (T ws)), some (.d (.tup (row.map T))), some (.l []), none, none, none, none, none, none]) rfl ?_
  refine st_for (to_bind (to_call (to_cons (to_V (d := T ws) rfl) to_nil) rfl es) (to_lift rfl)) e ?_
  refine st_last ?_
  show gSeq (gRet (aV 2)) gNext [some (.d (T ws)), some (.d (.tup (row.map T))), some (.d (.lst ((done.filterMap (tellOf ws row)).map tellD))), o3, o4, o5, none, none, o8] = _
  unfold pTell
  rw [e1]
  exact st_ret (to_V rfl)
end DL
end
section
set_option Elab.async false
set_option linter.all false
set_option maxRecDepth 100000
set_option maxHeartbeats 2000000
namespace DL
open PySem PySem.Spec PyProof.Rows L2
theorem fn_nx {n : Nat} {g : GS} {cs : List Cell} {ρ ρ0 : DEnv} (h0 : cs.map some ++ List.replicate (n - cs.length) none = ρ) (e : g ρ = .nx ρ0) : fnF n g cs = .ok .non ρ0 := by
  unfold fnF
  rw [h0, e]
def isTup : D → Bool
  | .tup _ => true
  | _ => false
theorem isi_tuple {d : D} (h : d.ty.isSome = true) : dIsi [d, .op (.ty "tuple")] = some (.bl (isTup d)) := by
  have kk : ∀ (t : String) (b : Bool), L2.kitB t "tuple" = some b → (L2.kitB t "tuple").map D.bl = some (.bl b) := fun t b e => by rw [e]; rfl
  cases d with
  | tup _ => exact kk "tuple" true (by decide +kernel)
  | lst _ => exact kk "list" false (by decide +kernel)
  | non => exact kk "NoneType" false (by decide +kernel)
  | bl _ => exact kk "bool" false (by decide +kernel)
  | int _ => exact kk "int" false (by decide +kernel)
  | str _ => exact kk "str" false (by decide +kernel)
  | dct _ => cases h
  | op _ => cases h
theorem to_all2 {tst : DEnv → D → D → Option Bool} {fs : Act (List D)} {ρ ρ1 : DEnv} {ds : List D} {d : D} (h : To fs ρ ds ρ1) (e : allZ (tst ρ1) ds = some d) : To (aAll2 tst fs) ρ d ρ1 := to_bind h (by
  unfold To
  dsimp only
  rw [e])
theorem to_all1 {tst : DEnv → D → Option Bool} {f : Act D} {ρ ρ1 : DEnv} {x d : D} {xs : List D} (h : To f ρ x ρ1) (hx : asS x = some xs) (e : allO (xs.map (tst ρ1)) = some d) : To (aAll1 tst f) ρ d ρ1 := to_bind h (by
  unfold To
  dsimp only
  rw [hx]
  show (match allO (xs.map (tst ρ1)) with | some d => _ | none => _) = _
  rw [e])
theorem allO_some {l : List (Option Bool)} {bs : List Bool} (h : l = bs.map some) : allO l = some (.bl (bs.all id)) := by
  subst h
  unfold allO
  rw [if_pos (by simp)]
  congr 2
  induction bs with
  | nil => rfl
  | cons b bs ih => simp [List.all_cons, ih]
/-- what is_step says -/
def isStepD (ws : List Int) : D → Bool
  | .tup xs => decide (xs.length = ws.length) && (List.zipWith (fun x w => isN x 0 (w - 1)) xs ws).all id
  | _ => false
theorem num2_zip {ρ : DEnv} : ∀ {xs : List D} {ws : List Int}, (∀ x ∈ xs, x.ty.isSome = true) → List.zipWith (tNum2 ρ) xs (ws.map .int) = (List.zipWith (fun x w => isN x 0 (w - 1)) xs ws).map some
  | [], _, _ => by simp
  | _ :: _, [], _ => by simp
  | x :: xs, w :: ws, h => by
    rw [List.map_cons, List.zipWith_cons_cons, List.zipWith_cons_cons, List.map_cons, num2_zip fun y hy => h y (List.mem_cons_of_mem _ hy)]
    congr 1
    show (if x.ty.isSome = true then some (isN x 0 (w - 1)) else none) = _
    rw [if_pos (h x List.mem_cons_self)]
theorem is_step_eq {ws : List Int} {d : D} (ht : d.ty.isSome = true) (hx : ∀ xs, d = .tup xs → ∀ x ∈ xs, x.ty.isSome = true) : RD.F_is_step [.d (T ws), .d d] = .ok (.bl (isStepD ws d)) [some (.d (T ws)), some (.d d)] := by
  unfold RD.F_is_step RD.g_is_step
  refine fn_ok (ρ := [some (.d (T ws)), some (.d d)]) rfl ?_
  have t1 : To (cNot (cB (aN dIsi (aCons (aV 1) (aCons (aC (.op (.ty "tuple"))) aNil))))) [some (.d (T ws)), some (.d d)] (!(isTup d)) [some (.d (T ws)), some (.d d)] := to_not (to_cB (to_N (to_cons (to_V (d := d) rfl) (to_cons to_C to_nil)) (isi_tuple ht)))
  cases hd : isTup d with
  | false =>
    rw [hd] at t1
    have e : isStepD ws d = false := by cases d <;> first | rfl | cases hd
    rw [e]
    exact st_if_t (to_or_t t1) (st_ret to_C)
  | true =>
    rw [hd] at t1
    cases d with
    | tup xs =>
      have t2 : To (cB (a2 (dEq true) (aN dLen (aCons (aV 1) aNil)) (aN dLen (aCons (aV 0) aNil)))) [some (.d (T ws)), some (.d (.tup xs))] (!(decide ((xs.length : Int) = (ws.length : Int)))) [some (.d (T ws)), some (.d (.tup xs))] := to_cB (to_2 (to_N (to_cons (to_V (d := .tup xs) rfl) to_nil) (d := .int xs.length) rfl) (to_N (to_cons (to_V (d := T ws) rfl) to_nil) (dLen_T ws)) (by rw [dEq_int, Bool.true_xor]))
      by_cases hl : xs.length = ws.length
      · rw [decide_eq_true (by omega)] at t2
        refine st_if_f (to_or_f t1 t2) (st_next (st_last (st_ret ?_)))
        refine to_all2 (to_cons (to_V (d := .tup xs) rfl) (to_cons (to_V (d := T ws) rfl) to_nil)) ?_
        show allO (List.zipWith (tNum2 _) xs (ws.map .int)) = some (.bl (isStepD ws (.tup xs)))
        rw [num2_zip (hx xs rfl), allO_some rfl]
        show _ = some (D.bl (decide (xs.length = ws.length) && _))
        rw [decide_eq_true hl, Bool.true_and]
      · rw [decide_eq_false (by omega)] at t2
        have e : isStepD ws (.tup xs) = false := by
          show (decide (xs.length = ws.length) && _) = false
          rw [decide_eq_false hl, Bool.false_and]
        rw [e]
        exact st_if_t (to_or_f t1 t2) (st_ret to_C)
    | _ => cases hd
theorem ty_T {xs : List Int} : ∀ x ∈ xs.map D.int, x.ty.isSome = true := fun x hx => by
  obtain ⟨i, _, rfl⟩ := List.mem_map.mp hx
  rfl
theorem isStep_St : ∀ {ws s : List Int}, St ws s → isStepD ws (T s) = true := fun {ws s} h => by
  show (decide ((s.map D.int).length = ws.length) && _) = true
  rw [List.length_map, decide_eq_true h.1, Bool.true_and]
  have key : ∀ {ws s : List Int}, (∀ p ∈ s.zip ws, 0 ≤ p.1 ∧ p.1 < p.2) → (List.zipWith (fun x w => isN x 0 (w - 1)) (s.map D.int) ws).all id = true := by
    intro ws s
    induction s generalizing ws with
    | nil => intro _; simp
    | cons x s ih =>
      intro hp
      cases ws with
      | nil => simp
      | cons w ws =>
        rw [List.map_cons, List.zipWith_cons_cons, List.all_cons, ih (fun p q => hp p (by rw [List.zip_cons_cons]; exact List.mem_cons_of_mem _ q)), Bool.and_true]
        have := hp (x, w) (by rw [List.zip_cons_cons]; exact List.mem_cons_self)
        dsimp only at this
        show (decide (0 ≤ x) && decide (x ≤ w - 1)) = true
        rw [decide_eq_true this.1, decide_eq_true (by omega)]
        rfl
  exact key h.2
theorem enumR_mem : ∀ {xs : List D} {k : Nat} {d : D}, d ∈ enumR k xs → ∃ i x, d = .tup [.int i, x] ∧ x ∈ xs
  | [], _, _, h => by cases h
  | x :: xs, k, d, h => by
    rcases List.mem_cons.mp h with rfl | h
    · exact ⟨_, x, rfl, List.mem_cons_self⟩
    · obtain ⟨i, y, e, hy⟩ := enumR_mem h
      exact ⟨i, y, e, List.mem_cons_of_mem _ hy⟩
theorem need_row_eq {ws : List Int} {row : List (List Int)} (hr : ∀ s ∈ row, St ws s) (hl : row.length ≤ 40) : ∃ ρ, RD.F_need_row [.d (T ws), .d (.tup (row.map T))] = .ok .non ρ := by
  obtain ⟨o', e⟩ := for_fold (t := tgT 2 (tgCons (tgN 2) (tgCons (tgN 3) tgNil))) (g := gIf (cNot (cB (aCall 2 RD.F_is_step (aCons (aV 0) (aCons (aV 3) aNil))))) gDead gNext)
    (fun (_ : Unit) (o : Option Cell × Option Cell) => [some (.d (T ws)), some (.d (.tup (row.map T))), o.1, o.2]) (fun _ => True) (fun _ _ => ()) (enumR 0 (row.map T)) () (none, none) trivial (fun d hd a o _ => by
      obtain ⟨i, x, rfl, hx⟩ := enumR_mem hd
      obtain ⟨s, hs, rfl⟩ := List.mem_map.mp hx
      refine ⟨trivial, [some (.d (T ws)), some (.d (.tup (row.map T))), some (.d (.int i)), some (.d (T s))], (some (.d (.int i)), some (.d (T s))), rfl, ?_⟩
      have es := is_step_eq (ws := ws) (d := T s) rfl (fun xs e => by injection e with e; rw [← e]; exact ty_T)
      rw [isStep_St (hr s hs)] at es
      exact st_last (st_if_f (to_not (k := true) (to_cB (to_call (to_cons (to_V (d := T ws) rfl) (to_cons (to_V (d := T s) rfl) to_nil)) rfl es))) (st_next st_end)))
  unfold RD.F_need_row RD.g_need_row
  refine ⟨[some (.d (T ws)), some (.d (.tup (row.map T))), o'.1, o'.2], fn_nx (ρ := [some (.d (T ws)), some (.d (.tup (row.map T))), none, none]) rfl ?_⟩
  refine st_if_f (to_or_f (to_not (k := true) (to_cB (to_N (to_cons (to_V (d := .tup (row.map T)) rfl) (to_cons to_C to_nil)) (isi_tuple rfl)))) (to_cB (to_2 (to_N (to_cons (to_V (d := .tup (row.map T)) rfl) to_nil) (d := .int (row.map T).length) rfl) to_C (by
    show some (D.bl (decide ((40 : Int) < (row.map T).length))) = _
    rw [decide_eq_false (by rw [List.length_map]; omega)])))) (st_next (st_last ?_))
  exact st_for (to_bind (to_cons (to_V (d := .tup (row.map T)) rfl) to_nil) (to_lift rfl)) e st_end
end DL
end
section
set_option Elab.async false
set_option linter.all false
set_option maxRecDepth 100000
set_option maxHeartbeats 2000000
namespace DL
open PySem PySem.Spec PyProof.Rows L2
/-! ### does_tell -/
abbrev dtI (ws : List Int) (row : List (List Int)) (v : D) : DEnv := [some (.d (T ws)), some (.d (.tup (row.map T))), some (.d v), none, none, none]
abbrev dtE (ws : List Int) (row : List (List Int)) (v a b : D) (m : Option Cell) : DEnv := [some (.d (T ws)), some (.d (.tup (row.map T))), some (.d v), some (.d a), some (.d b), m]
section
variable {ws : List Int} {row : List (List Int)} {v a b : D}
theorem dt_t1 (ht : v.ty.isSome = true) : To (cNot (cB (aN dIsi (aCons (aV 2) (aCons (aC (.op (.ty "tuple"))) aNil))))) (dtI ws row v) (!(isTup v)) (dtI ws row v) := to_not (to_cB (to_N (to_cons (to_V (d := v) rfl) (to_cons to_C to_nil)) (isi_tuple ht)))
/-- no tuple -/
theorem dt_no1 (ht : v.ty.isSome = true) (h : isTup v = false) : ∃ ρ, RD.F_does_tell [.d (T ws), .d (.tup (row.map T)), .d v] = .ok (.bl false) ρ := by
  have t := dt_t1 (ws := ws) (row := row) ht
  rw [h] at t
  unfold RD.F_does_tell RD.g_does_tell
  exact ⟨dtI ws row v, fn_ok (ρ := dtI ws row v) rfl (st_if_t (to_or_t t) (st_ret to_C))⟩
/-- not two -/
theorem dt_no2 {xs : List D} (h : xs.length ≠ 2) : ∃ ρ, RD.F_does_tell [.d (T ws), .d (.tup (row.map T)), .d (.tup xs)] = .ok (.bl false) ρ := by
  have t := dt_t1 (ws := ws) (row := row) (v := .tup xs) rfl
  unfold RD.F_does_tell RD.g_does_tell
  refine ⟨dtI ws row (.tup xs), fn_ok (ρ := dtI ws row (.tup xs)) rfl (st_if_t (to_or_f t (to_or_t (to_cB (to_2 (to_N (to_cons (to_V (d := .tup xs) rfl) to_nil) (d := .int xs.length) rfl) to_C ?_)))) (st_ret to_C))⟩
  rw [dEq_int, Bool.true_xor, decide_eq_false (by omega)]
  rfl
theorem dt_c (hta : a.ty.isSome = true) (hxa : ∀ xs, a = .tup xs → ∀ x ∈ xs, x.ty.isSome = true) : To (cOr (cNot (cB (aN dIsi (aCons (aV 2) (aCons (aC (.op (.ty "tuple"))) aNil))))) (cOr (cB (a2 (dEq true) (aN dLen (aCons (aV 2) aNil)) (aC (.int 2)))) (cNot (cB (aCall 2 RD.F_is_step (aCons (aV 0) (aCons (a2 dIx (aV 2) (aC (.int 0))) aNil))))))) (dtI ws row (.tup [a, b])) (!(isStepD ws a)) (dtI ws row (.tup [a, b])) := by
  have t := dt_t1 (ws := ws) (row := row) (v := .tup [a, b]) rfl
  exact to_or_f t (to_or_f (to_cB (to_2 (to_N (to_cons (to_V (d := .tup [a, b]) rfl) to_nil) (d := .int 2) rfl) to_C (by rw [dEq_int]; rfl))) (to_not (to_cB (to_call (to_cons (to_V (d := T ws) rfl) (to_cons (to_2 (to_V (d := .tup [a, b]) rfl) to_C (d := a) rfl) to_nil)) rfl (is_step_eq hta hxa)))))
/-- no step -/
theorem dt_no3 (hta : a.ty.isSome = true) (hxa : ∀ xs, a = .tup xs → ∀ x ∈ xs, x.ty.isSome = true) (h : isStepD ws a = false) : ∃ ρ, RD.F_does_tell [.d (T ws), .d (.tup (row.map T)), .d (.tup [a, b])] = .ok (.bl false) ρ := by
  have t := dt_c (ws := ws) (row := row) (b := b) hta hxa
  rw [h] at t
  unfold RD.F_does_tell RD.g_does_tell
  exact ⟨dtI ws row (.tup [a, b]), fn_ok (ρ := dtI ws row (.tup [a, b])) rfl (st_if_t t (st_ret to_C))⟩
variable {s : List Int}
theorem dt_go {o : Out} {k : GS} (hs : St ws s) (e : k (dtE ws row (.tup [T s, b]) (T s) b none) = o) : gSeq (gIf (cOr (cNot (cB (aN dIsi (aCons (aV 2) (aCons (aC (.op (.ty "tuple"))) aNil))))) (cOr (cB (a2 (dEq true) (aN dLen (aCons (aV 2) aNil)) (aC (.int 2)))) (cNot (cB (aCall 2 RD.F_is_step (aCons (aV 0) (aCons (a2 dIx (aV 2) (aC (.int 0))) aNil))))))) (gRet (aC (.bl false))) gNext)
    (gSeq (gAsg (tgT 2 (tgCons (tgN 3) (tgCons (tgN 4) tgNil))) (aV 2)) k) (dtI ws row (.tup [T s, b])) = o := by
  have t := dt_c (ws := ws) (row := row) (a := T s) (b := b) rfl (fun xs e => by injection e with e; rw [← e]; exact ty_T)
  rw [isStep_St hs] at t
  exact st_if_f t (st_next (st_asg (to_V (d := .tup [T s, b]) rfl) rfl e))
theorem dt_t4 {m : Option Cell} (ht : b.ty.isSome = true) : To (cNot (cB (aN dIsi (aCons (aV 4) (aCons (aC (.op (.ty "tuple"))) aNil))))) (dtE ws row (.tup [T s, b]) (T s) b m) (!(isTup b)) (dtE ws row (.tup [T s, b]) (T s) b m) := to_not (to_cB (to_N (to_cons (to_V (d := b) rfl) (to_cons to_C to_nil)) (isi_tuple ht)))
/-- numbers that are no tuple -/
theorem dt_no4 (hs : St ws s) (ht : b.ty.isSome = true) (h : isTup b = false) : ∃ ρ, RD.F_does_tell [.d (T ws), .d (.tup (row.map T)), .d (.tup [T s, b])] = .ok (.bl false) ρ := by
  have t := dt_t4 (ws := ws) (row := row) (s := s) (m := none) ht
  rw [h] at t
  unfold RD.F_does_tell RD.g_does_tell
  exact ⟨dtE ws row (.tup [T s, b]) (T s) b none, fn_ok (ρ := dtI ws row (.tup [T s, b])) rfl (dt_go hs (st_if_t (to_or_t t) (st_ret to_C)))⟩
variable {ns : List D}
theorem dt_l : To (cB (a2 (dEq true) (aN dLen (aCons (aV 4) aNil)) (aN dLen (aCons (aV 1) aNil)))) (dtE ws row (.tup [T s, .tup ns]) (T s) (.tup ns) none) (!(decide (ns.length = row.length))) (dtE ws row (.tup [T s, .tup ns]) (T s) (.tup ns) none) := by
  refine to_cB (to_2 (to_N (to_cons (to_V (d := .tup ns) rfl) to_nil) (d := .int ns.length) rfl) (to_N (to_cons (to_V (d := .tup (row.map T)) rfl) to_nil) (d := .int (row.map T).length) rfl) ?_)
  rw [dEq_int, Bool.true_xor, List.length_map]
  congr 3
  rw [decide_eq_decide]
  omega
/-- too many numbers, or too few -/
theorem dt_no5 (hs : St ws s) (h : ns.length ≠ row.length) : ∃ ρ, RD.F_does_tell [.d (T ws), .d (.tup (row.map T)), .d (.tup [T s, .tup ns])] = .ok (.bl false) ρ := by
  have t := dt_t4 (ws := ws) (row := row) (s := s) (b := .tup ns) (m := none) rfl
  have t2 := dt_l (ws := ws) (row := row) (s := s) (ns := ns)
  rw [decide_eq_false h] at t2
  unfold RD.F_does_tell RD.g_does_tell
  exact ⟨dtE ws row (.tup [T s, .tup ns]) (T s) (.tup ns) none, fn_ok (ρ := dtI ws row (.tup [T s, .tup ns])) rfl (dt_go hs (st_if_t (to_or_f t t2) (st_ret to_C)))⟩
theorem dt_go2 {o : Out} {k : GS} (hw : OkW ws) (hs : s ∈ pSteps ws) (h : ns.length = row.length) (e : k (dtE ws row (.tup [T s, .tup ns]) (T s) (.tup ns) (some (.d (.int (pK ws s))))) = o) :
    gSeq (gIf (cOr (cNot (cB (aN dIsi (aCons (aV 2) (aCons (aC (.op (.ty "tuple"))) aNil))))) (cOr (cB (a2 (dEq true) (aN dLen (aCons (aV 2) aNil)) (aC (.int 2)))) (cNot (cB (aCall 2 RD.F_is_step (aCons (aV 0) (aCons (a2 dIx (aV 2) (aC (.int 0))) aNil))))))) (gRet (aC (.bl false))) gNext)
    (gSeq (gAsg (tgT 2 (tgCons (tgN 3) (tgCons (tgN 4) tgNil))) (aV 2))
    (gSeq (gIf (cOr (cNot (cB (aN dIsi (aCons (aV 4) (aCons (aC (.op (.ty "tuple"))) aNil))))) (cB (a2 (dEq true) (aN dLen (aCons (aV 4) aNil)) (aN dLen (aCons (aV 1) aNil))))) (gRet (aC (.bl false))) gNext)
    (gSeq (gSet 5 (a2 dSub (aCall 2 RD.F_order_of (aCons (aV 0) (aCons (aV 3) aNil))) (aC (.int 1)))) k))) (dtI ws row (.tup [T s, .tup ns])) = o := by
  have t := dt_t4 (ws := ws) (row := row) (s := s) (b := .tup ns) (m := none) rfl
  have t2 := dt_l (ws := ws) (row := row) (s := s) (ns := ns)
  rw [decide_eq_true h] at t2
  obtain ⟨hk, ho⟩ := hw.ord s hs
  obtain ⟨ρo, eo⟩ := order_eq hw.nz (by have := hw.len; omega) (by omega) ho
  refine dt_go (hw.st s hs) (st_if_f (to_or_f t t2) (st_next (st_set (d := .int (pK ws s)) (to_2 (to_call (to_cons (to_V (d := T ws) rfl) (to_cons (to_V (d := T s) rfl) to_nil)) rfl eo) to_C ?_) e)))
  show some (D.int ((pK ws s : Int) + 1 - 1)) = _
  rw [Int.add_sub_cancel]
theorem num1_map {ρ : DEnv} {k : Int} (h0 : ρ[5]? = some (some (.d (.int k)))) (h : ∀ x ∈ ns, x.ty.isSome = true) : ns.map (tNum1 1 5 ρ) = (ns.map fun x => isN x 1 k).map some := by
  rw [List.map_map]
  apply List.map_congr_left
  intro x hx
  unfold tNum1
  rw [h0]
  show (if x.ty.isSome = true then some (isN x 1 k) else none) = _
  rw [if_pos (h x hx)]
  rfl
theorem dt_all (ht : ∀ x ∈ ns, x.ty.isSome = true) : To (cNot (cB (aAll1 (tNum1 1 5) (aV 4)))) (dtE ws row (.tup [T s, .tup ns]) (T s) (.tup ns) (some (.d (.int (pK ws s))))) (!(ns.all fun x => isN x 1 (pK ws s))) (dtE ws row (.tup [T s, .tup ns]) (T s) (.tup ns) (some (.d (.int (pK ws s))))) := by
  refine to_not (to_cB (to_all1 (x := .tup ns) (to_V rfl) rfl ?_))
  rw [num1_map rfl ht, allO_some rfl]
  congr 2
  induction ns with
  | nil => rfl
  | cons x xs ih => simp [List.all_cons]
/-- a number that is none, or too great -/
theorem dt_no6 (hw : OkW ws) (hs : s ∈ pSteps ws) (h : ns.length = row.length) (ht : ∀ x ∈ ns, x.ty.isSome = true) (hn : (ns.all fun x => isN x 1 (pK ws s)) = false) : ∃ ρ, RD.F_does_tell [.d (T ws), .d (.tup (row.map T)), .d (.tup [T s, .tup ns])] = .ok (.bl false) ρ := by
  have t := dt_all (ws := ws) (row := row) (s := s) ht
  rw [hn] at t
  unfold RD.F_does_tell RD.g_does_tell
  exact ⟨dtE ws row (.tup [T s, .tup ns]) (T s) (.tup ns) (some (.d (.int (pK ws s)))), fn_ok (ρ := dtI ws row (.tup [T s, .tup ns])) rfl (dt_go2 hw hs h (st_if_t (to_or_t t) (st_ret to_C)))⟩
end
/-- whether a step and numbers tell a row -/
def tellB (ws : List Int) (row : List (List Int)) (s ns : List Int) : Bool := ns.all (fun n => decide (1 ≤ n) && decide (n ≤ pK ws s)) && (decide (ns.sum ≤ pK ws s) && (List.zipWith (fun one n => decide (pTimes ws s n = one)) row ns).all id)
theorem tim_zip {ws s : List Int} {ρ : DEnv} (h0 : ρ[0]? = some (some (.d (T ws)))) (h3 : ρ[3]? = some (some (.d (T s)))) (hw : (ws.all fun i => i != 0 && decide (i.natAbs < 1000000)) = true) (hs : (s.all fun i => decide (i.natAbs < 1000000)) = true) (l1 : ws.length ≤ 1000) (l2 : s.length ≤ 1000) :
    ∀ (row : List (List Int)) (ns : List Int), (∀ n ∈ ns, n.natAbs < 1000000) → List.zipWith (tTim 0 3 ρ) (row.map T) (ns.map .int) = (List.zipWith (fun one n => decide (pTimes ws s n = one)) row ns).map some
  | [], _, _ => by simp
  | _ :: _, [], _ => by simp
  | one :: row, n :: ns, h => by
    rw [List.map_cons, List.map_cons, List.zipWith_cons_cons, List.zipWith_cons_cons, List.map_cons, tim_zip h0 h3 hw hs l1 l2 row ns fun m hm => h m (List.mem_cons_of_mem _ hm)]
    congr 1
    unfold tTim
    rw [h0, h3]
    show (match D.ints (ws.map .int), D.ints (s.map .int) with | some w, some s => _ | _, _ => none) = _
    rw [ints_of_map, ints_of_map]
    dsimp only
    rw [if_pos ⟨hw, hs, h n List.mem_cons_self, (sh_T _).sh (by omega), l1, l2⟩]
    have := eqv_T (pTimes ws s n) one
    rw [D.py, pys_ints] at this
    exact congrArg some this
theorem dt_ints {ws : List Int} {row : List (List Int)} {s ns : List Int} (hw : OkW ws) (hs : s ∈ pSteps ws) (h : ns.length = row.length) : ∃ ρ, RD.F_does_tell [.d (T ws), .d (.tup (row.map T)), .d (.tup [T s, T ns])] = .ok (.bl (tellB ws row s ns)) ρ := by
  have e0 : ((ns.map D.int).all fun x => isN x 1 (pK ws s)) = ns.all fun n => decide (1 ≤ n) && decide (n ≤ pK ws s) := by
    rw [List.all_map]
    rfl
  have t := dt_all (ws := ws) (row := row) (s := s) (ns := ns.map .int) ty_T
  rw [e0] at t
  obtain ⟨hk, _⟩ := hw.ord s hs
  have hst := hw.st s hs
  unfold tellB
  cases hall : ns.all fun n => decide (1 ≤ n) && decide (n ≤ pK ws s) with
  | false =>
    rw [Bool.false_and]
    exact dt_no6 hw hs (by rw [List.length_map]; exact h) ty_T (by rw [e0]; exact hall)
  | true =>
    rw [Bool.true_and]
    rw [hall] at t
    have ts : To (cB (a2 (dCmpI (fun i j => decide (j < i))) (aN dSum (aCons (aV 4) aNil)) (aV 5))) (dtE ws row (.tup [T s, T ns]) (T s) (T ns) (some (.d (.int (pK ws s))))) (decide ((pK ws s : Int) < ns.sum)) (dtE ws row (.tup [T s, T ns]) (T s) (T ns) (some (.d (.int (pK ws s))))) := to_cB (to_2 (to_N (to_cons (to_V (d := T ns) rfl) to_nil) (dSum_T ns)) (to_V (d := .int (pK ws s)) rfl) rfl)
    unfold RD.F_does_tell RD.g_does_tell
    by_cases hc : ns.sum ≤ pK ws s
    · rw [decide_eq_false (by omega)] at ts
      rw [decide_eq_true hc, Bool.true_and]
      refine ⟨dtE ws row (.tup [T s, T ns]) (T s) (T ns) (some (.d (.int (pK ws s)))), fn_ok (ρ := dtI ws row (.tup [T s, T ns])) rfl (dt_go2 hw hs (by rw [List.length_map]; exact h) (st_if_f (to_or_f t ts) (st_next (st_last (st_ret ?_)))))⟩
      refine to_all2 (to_cons (to_V (d := .tup (row.map T)) rfl) (to_cons (to_V (d := T ns) rfl) to_nil)) ?_
      show allO (List.zipWith (tTim 0 3 _) (row.map T) (ns.map .int)) = _
      rw [tim_zip (ws := ws) (s := s) rfl rfl (by
        rw [List.all_eq_true]
        intro w hw'
        have := hw.ge w hw'
        simp
        omega) (by
        rw [List.all_eq_true]
        intro x hx
        have := hst.bound (fun w hw' => (hw.ge w hw').2) x hx
        simp
        omega) (by have := hw.len; omega) (by rw [hst.1]; have := hw.len; omega) row ns (fun n hn => by
        have := List.all_eq_true.mp hall n hn
        simp at this
        omega), allO_some rfl]
    · rw [decide_eq_true (by omega)] at ts
      rw [decide_eq_false hc, Bool.false_and]
      exact ⟨dtE ws row (.tup [T s, T ns]) (T s) (T ns) (some (.d (.int (pK ws s)))), fn_ok (ρ := dtI ws row (.tup [T s, T ns])) rfl (dt_go2 hw hs (by rw [List.length_map]; exact h) (st_if_t (to_or_f t ts) (st_ret to_C)))⟩
end DL
end
section
set_option Elab.async false
set_option linter.all false
set_option maxRecDepth 100000
set_option maxHeartbeats 2000000
namespace DL
open PySem PySem.Spec PyProof.Rows L2
theorem sh_TT {rows : List (List Int)} : ∀ x ∈ rows.map T, Sh 1 x := fun x hx => by
  obtain ⟨y, _, rfl⟩ := List.mem_map.mp hx
  exact sh_T _
theorem pys_TT : ∀ rows : List (List Int), D.pys (rows.map T) = rows.map fun r => (T r).py
  | [] => rfl
  | r :: rows => by rw [List.map_cons, D.pys, pys_TT rows]; rfl
theorem eqvAll_TT : ∀ a b : List (List Int), PyData.eqvAll (a.map fun r => (T r).py) (b.map fun r => (T r).py) = decide (a = b)
  | [], [] => rfl
  | [], _ :: _ => rfl
  | _ :: _, [] => rfl
  | x :: xs, y :: ys => by
    rw [List.map_cons, List.map_cons, PyData.eqvAll, eqvAll_TT xs ys, eqv_T]
    by_cases h : x = y
    · subst h; simp
    · rw [decide_eq_false h, decide_eq_false (fun z => h (List.cons.inj z).1)]; rfl
theorem dEq_TT (neg : Bool) (a b : List (List Int)) : dEq neg (.tup (a.map T)) (.tup (b.map T)) = some (.bl (xor neg (decide (a = b)))) := by
  unfold dEq
  rw [if_pos ⟨(sh_tup sh_TT).sh (by omega), (sh_tup sh_TT).sh (by omega)⟩]
  have : PyData.eqv (D.tup (a.map T)).py (D.tup (b.map T)).py = decide (a = b) := by
    rw [D.py, D.py, PyData.eqv, pys_TT, pys_TT, eqvAll_TT]
  rw [this]
theorem alike_bl (x y : Bool) : ∃ ρ, RD.F__law_alike [.d (.bl x), .d (.bl y)] = .ok (.bl (decide (x = y))) ρ := by
  have : ∀ x y : Bool, okIs (RD.F__law_alike [.d (.bl x), .d (.bl y)]) (.bl (decide (x = y))) = true := by decide +kernel
  exact okIs_of (this x y)
section
variable {ws : List Int} {row : List (List Int)} {v : D}
abbrev shE (ws : List Int) (row : List (List Int)) (v : D) : DEnv := [some (.d (T ws)), some (.d (.tup (row.map T))), some (.d v)]
theorem shows_go {o : Out} {k : GS} (hw : OkW ws) (hr : ∀ s ∈ row, St ws s) (hl : row.length ≤ 40) (e : k (shE ws row v) = o) : gSeq (gDrop (aCall 1 RD.F_need_wheels (aCons (aV 0) aNil))) (gSeq (gDrop (aCall 2 RD.F_need_row (aCons (aV 0) (aCons (aV 1) aNil)))) k) (shE ws row v) = o := by
  obtain ⟨ρ1, e1⟩ := hw.need
  obtain ⟨ρ2, e2⟩ := need_row_eq hr hl
  exact st_drop (to_call (to_cons (to_V (d := T ws) rfl) to_nil) rfl e1) (st_drop (to_call (to_cons (to_V (d := T ws) rfl) (to_cons (to_V (d := .tup (row.map T)) rfl) to_nil)) rfl e2) e)
theorem shows_eq {d : D} (hw : OkW ws) (hr : ∀ s ∈ row, St ws s) (hl : row.length ≤ 40) (hn : v.isNon = some false) (h : ∃ ρ, RD.F_does_tell [.d (T ws), .d (.tup (row.map T)), .d v] = .ok d ρ) : ∃ ρ, RD.F_shows_teller [.d (T ws), .d (.tup (row.map T)), .d v] = .ok d ρ := by
  obtain ⟨ρ, e⟩ := h
  unfold RD.F_shows_teller RD.g_shows_teller
  refine ⟨shE ws row v, fn_ok (ρ := shE ws row v) rfl (shows_go hw hr hl (st_if_f (to_cB (to_2 (to_V (d := v) rfl) to_C ?_)) (st_next (st_last (st_ret (to_call (to_cons (to_V (d := T ws) rfl) (to_cons (to_V (d := .tup (row.map T)) rfl) (to_cons (to_V (d := v) rfl) to_nil))) rfl e))))))⟩
  show (D.isNon v).map (fun k => D.bl (xor false k)) = some (.bl false)
  rw [hn]
  rfl
theorem shows_none (hw : OkW ws) (hr : ∀ s ∈ row, St ws s) (hl : row.length ≤ 40) : ∃ ρ, RD.F_shows_teller [.d (T ws), .d (.tup (row.map T)), .d .non] = .ok (.bl (decide (pTell ws row = []))) ρ := by
  obtain ⟨ρ, e⟩ := tellers_eq (row := row) hw (by omega)
  unfold RD.F_shows_teller RD.g_shows_teller
  refine ⟨shE ws row .non, fn_ok (ρ := shE ws row .non) rfl (shows_go hw hr hl (st_if_t (to_cB (to_2 (to_V (d := .non) rfl) to_C rfl)) (st_ret ?_)))⟩
  refine to_bind (to_call (to_cons (to_V (d := T ws) rfl) (to_cons (to_V (d := .tup (row.map T)) rfl) to_nil)) rfl e) (to_bind (x := !(((pTell ws row).map tellD).isEmpty)) rfl ?_)
  show RS.ok (D.bl (!(!(((pTell ws row).map tellD).isEmpty)))) _ = RS.ok (D.bl (decide (pTell ws row = []))) _
  congr 2
  cases pTell ws row with
  | nil => rfl
  | cons a b => rfl
theorem teller_eq (hw : OkW ws) (hr : ∀ s ∈ row, St ws s) (hl : row.length ≤ 40) : ∃ ρ, RD.F_teller [.d (T ws), .d (.tup (row.map T))] = .ok (match pTell ws row with | p :: _ => tellD p | [] => .non) ρ := by
  obtain ⟨ρ, e⟩ := tellers_eq (row := row) hw (by omega)
  obtain ⟨ρ1, e1⟩ := hw.need
  obtain ⟨ρ2, e2⟩ := need_row_eq hr hl
  unfold RD.F_teller RD.g_teller
  refine ⟨[some (.d (T ws)), some (.d (.tup (row.map T))), some (.d (.lst ((pTell ws row).map tellD)))], fn_ok (ρ := [some (.d (T ws)), some (.d (.tup (row.map T))), none]) rfl ?_⟩
  refine st_drop (to_call (to_cons (to_V (d := T ws) rfl) to_nil) rfl e1) (st_drop (to_call (to_cons (to_V (d := T ws) rfl) (to_cons (to_V (d := .tup (row.map T)) rfl) to_nil)) rfl e2) ?_)
  refine st_set (to_call (to_cons (to_V (d := T ws) rfl) (to_cons (to_V (d := .tup (row.map T)) rfl) to_nil)) rfl e) (st_last (st_ret ?_))
  cases hp : pTell ws row with
  | nil => exact to_if_f (to_bind (to_V rfl) (to_lift rfl)) to_C
  | cons p ps => exact to_if_t (to_bind (to_V rfl) (to_lift rfl)) (to_2 (to_V (d := .lst ((p :: ps).map tellD)) rfl) to_C (dIx_lst (i := 0) rfl))
end
/-- the law's own: whether a step and numbers tell a row -/
def ltellB (ws : List Int) (row : List (List Int)) (s ns : List Int) : Bool := !(!(decide (ns.filter (fun n => decide (n < 1)) = [])) || decide ((pK ws s : Int) + 1 ≤ ns.sum)) && decide (ns.map (fun n => pTimes ws s n) = row)
theorem ltells_eq {ws : List Int} {row : List (List Int)} {s ns : List Int} (hw : OkW ws) (hs : s ∈ pSteps ws) (hl : ns.length ≤ 1000) : ∃ ρ, RD.F__law_tells [.d (T ws), .d (.tup (row.map T)), .d (T s), .d (T ns)] = .ok (.bl (ltellB ws row s ns)) ρ := by
  obtain ⟨hk, ho⟩ := hw.ord s hs
  have hst := hw.st s hs
  obtain ⟨ρo, eo⟩ := lorder_eq hw.nz (by have := hw.len; omega) hst.1 (by omega) ho
  have hb : ∀ x ∈ s, -(2 ^ 64) < x ∧ x < 2 ^ 64 := fun x hx => by have := hst.bound (fun w hw' => (hw.ge w hw').2) x hx; omega
  let E : DEnv := [some (.d (T ws)), some (.d (.tup (row.map T))), some (.d (T s)), some (.d (T ns)), none]
  have c1 : To (cB (a2 (dEq true) (aLst (aComp [4] (aI (aV 3)) (tgN 4) (cB (a2 (dCmpI (fun i j => decide (i < j))) (aV 4) (aC (.int 1)))) (aV 4))) (aLst (fLst aNil)))) E (!(decide (ns.filter (fun n => decide (n < 1)) = []))) E := by
    have f1 := to_filter (vs := [4]) (t := tgN 4) (c := cB (a2 (dCmpI (fun i j => decide (i < j))) (aV 4) (aC (.int 1)))) (f := aV 4) (ρ := E) (ρ1 := E) (fi := aI (aV 3)) (ds := ns.map .int)
      (fun d => match d with | .int n => decide (n < 1) | _ => false) id (to_bind (to_V (d := T ns) rfl) (to_lift rfl)) rfl (by rw [List.length_map]; omega) (fun d hd => by
        obtain ⟨n, _, rfl⟩ := List.mem_map.mp hd
        exact ⟨[some (.d (T ws)), some (.d (.tup (row.map T))), some (.d (T s)), some (.d (T ns)), some (.d (.int n))], rfl, to_cB (to_2 (to_V (d := .int n) rfl) to_C rfl), fun _ => to_V rfl, rfl⟩)
    rw [List.map_id, List.filter_map] at f1
    refine to_cB (to_2 (to_bind f1 rfl) (y := .lst []) (by rfl) ?_)
    rw [dEq_nil (n := 0) true (fun x hx => by obtain ⟨y, _, rfl⟩ := List.mem_map.mp hx; exact sh_int) (by omega), Bool.true_xor]
    congr 3
    rw [decide_eq_decide, List.map_eq_nil_iff]
    exact Iff.rfl
  have c2 : To (cB (a2 (dCmpI (fun i j => decide (j ≤ i))) (aN dSum (aCons (aV 3) aNil)) (aCall 2 RD.F__law_order (aCons (aV 0) (aCons (aV 2) aNil))))) E (decide ((pK ws s : Int) + 1 ≤ ns.sum)) E :=
    to_cB (to_2 (to_N (to_cons (to_V (d := T ns) rfl) to_nil) (dSum_T ns)) (to_call (to_cons (to_V (d := T ws) rfl) (to_cons (to_V (d := T s) rfl) to_nil)) rfl eo) rfl)
  unfold RD.F__law_tells RD.g__law_tells ltellB
  cases b1 : decide (ns.filter (fun n => decide (n < 1)) = []) with
  | false =>
    rw [b1] at c1
    exact ⟨E, fn_ok (ρ := E) rfl (st_if_t (to_or_t c1) (st_ret to_C))⟩
  | true =>
    rw [b1] at c1
    cases b2 : decide ((pK ws s : Int) + 1 ≤ ns.sum) with
    | true =>
      rw [b2] at c2
      exact ⟨E, fn_ok (ρ := E) rfl (st_if_t (to_or_f c1 c2) (st_ret to_C))⟩
    | false =>
      rw [b2] at c2
      refine ⟨E, fn_ok (ρ := E) rfl (st_if_f (to_or_f c1 c2) (st_next (st_last (st_ret ?_))))⟩
      have m1 := to_map (vs := [4]) (t := tgN 4) (f := aCall 3 RD.F__law_times (aCons (aV 0) (aCons (aV 2) (aCons (aV 4) aNil)))) (ρ := E) (ρ1 := E) (fi := aI (aV 3)) (ds := ns.map .int)
        (fun d => match d with | .int n => T (pTimes ws s n) | _ => .non) (to_bind (to_V (d := T ns) rfl) (to_lift rfl)) rfl (by rw [List.length_map]; omega) (fun d hd => by
          obtain ⟨n, _, rfl⟩ := List.mem_map.mp hd
          exact ⟨[some (.d (T ws)), some (.d (.tup (row.map T))), some (.d (T s)), some (.d (T ns)), some (.d (.int n))], rfl, to_call (to_cons (to_V (d := T ws) rfl) (to_cons (to_V (d := T s) rfl) (to_cons (to_V (d := .int n) rfl) to_nil))) rfl (ltimes_eq hw.nz (by have := hw.len; omega) hst.1 hb), rfl⟩)
      rw [List.map_map] at m1
      have e3 : ns.map ((fun d : D => match d with | .int n => T (pTimes ws s n) | _ => .non) ∘ D.int) = (ns.map fun n => pTimes ws s n).map T := by rw [List.map_map]; rfl
      rw [e3] at m1
      refine to_2 (to_N (to_cons (to_bind m1 rfl) to_nil) rfl) (to_N (to_cons (to_V (d := .tup (row.map T)) rfl) to_nil) (d := .tup (row.map T)) rfl) ?_
      rw [dEq_TT, Bool.false_xor]
      rfl
theorem le_sum : ∀ {ns : List Int}, (∀ n ∈ ns, 1 ≤ n) → ∀ n ∈ ns, n ≤ ns.sum := fun {ns} => by
  have pos : ∀ {l : List Int}, (∀ n ∈ l, 1 ≤ n) → 0 ≤ l.sum := fun {l} h => by
    induction l with
    | nil => exact Int.le_refl _
    | cons a l ih =>
      rw [List.sum_cons]
      have h1 := h a List.mem_cons_self
      have h2 := ih fun n hn => h n (List.mem_cons_of_mem _ hn)
      omega
  induction ns with
  | nil => intro _ n hn; cases hn
  | cons a l ih =>
    intro h n hn
    rw [List.sum_cons]
    have h1 := h a List.mem_cons_self
    have h2 := pos fun n hn => h n (List.mem_cons_of_mem _ hn)
    rcases List.mem_cons.mp hn with rfl | hn
    · omega
    · have := ih (fun n hn => h n (List.mem_cons_of_mem _ hn)) n hn
      omega
theorem zip_map_eq {ws s : List Int} : ∀ {row : List (List Int)} {ns : List Int}, ns.length = row.length → (List.zipWith (fun one n => decide (pTimes ws s n = one)) row ns).all id = decide (ns.map (fun n => pTimes ws s n) = row)
  | [], [], _ => rfl
  | [], _ :: _, h => by simp at h
  | _ :: _, [], h => by simp at h
  | one :: row, n :: ns, h => by
    rw [List.zipWith_cons_cons, List.all_cons, zip_map_eq (by simpa using h), List.map_cons]
    by_cases h1 : pTimes ws s n = one
    · subst h1; simp
    · rw [decide_eq_false h1, decide_eq_false (fun z => h1 (List.cons.inj z).1)]; rfl
theorem tell_same {ws : List Int} {row : List (List Int)} {s ns : List Int} (h : ns.length = row.length) : tellB ws row s ns = ltellB ws row s ns := by
  unfold tellB ltellB
  rw [zip_map_eq h, Bool.eq_iff_iff]
  simp only [Bool.and_eq_true, List.all_eq_true, decide_eq_true_iff, Bool.not_eq_true', Bool.or_eq_false_iff, Bool.not_eq_false', decide_eq_false_iff_not, List.filter_eq_nil_iff, Int.not_le, Int.not_lt]
  constructor
  · rintro ⟨h1, h2, h3⟩
    exact ⟨⟨fun a ha => by have := h1 a ha; omega, by omega⟩, h3⟩
  · rintro ⟨⟨h1, h2⟩, h3⟩
    have h1' : ∀ n ∈ ns, 1 ≤ n := fun n hn => by have := h1 n hn; omega
    exact ⟨fun n hn => ⟨h1' n hn, by have := le_sum h1' n hn; omega⟩, by omega, h3⟩
end DL
end
section
set_option Elab.async false
set_option linter.all false
set_option maxRecDepth 100000
set_option maxHeartbeats 2000000
namespace DL
open PySem PySem.Spec PyProof.Rows L2
/-! ### the law's sums -/
theorem tIs_ints : ∀ n : List Int, tIs (n.map .int) = some n
  | [] => rfl
  | i :: n => by rw [List.map_cons, tIs, tIs_ints n]; rfl
theorem tIL_T : ∀ l : List (List Int), tIL (l.map T) = some l
  | [] => rfl
  | n :: l => by
    rw [List.map_cons, tIL, tIL_T l]
    show (tIs (n.map .int)).bind _ = _
    rw [tIs_ints]
    rfl
theorem dSS_T {l : List (List Int)} (h : ssOk l = true) : dSS (.lst (l.map T)) = some ((sset l).map T) := by
  show (tIL (l.map T)).bind _ = _
  rw [tIL_T]
  show (if ssOk l = true then _ else _) = _
  rw [if_pos h]
  rfl
theorem dLS_T {l : List (List Int)} (h : ssOk l = true) : dLS (.lst (l.map T)) = some (.int (sset l).length) := by
  show (tIL (l.map T)).bind _ = _
  rw [tIL_T]
  show (if ssOk l = true then _ else _) = _
  rw [if_pos h]
def nextS (ws : List Int) (f : List (List Int)) (s : List Int) : List (List Int) := sset (f ++ [s] ++ f.map fun o => pAdd ws o s)
def pSums (ws : List Int) (row : List (List Int)) : List (List Int) := row.foldl (nextS ws) []
theorem pSums_snoc {ws : List Int} {row : List (List Int)} {s : List Int} : pSums ws (row ++ [s]) = nextS ws (pSums ws row) s := by unfold pSums; rw [List.foldl_append]; rfl
theorem zip_add : ∀ {ws a c : List Int}, (∀ w ∈ ws, 0 < w) → ∀ p ∈ (pAdd ws a c).zip ws, 0 ≤ p.1 ∧ p.1 < p.2
  | [], [], _, _, p, h => by cases h
  | [], _ :: _, _, _, p, h => by simp at h
  | _ :: _, [], _, _, p, h => by cases h
  | _ :: _, _ :: _, [], _, p, h => by cases h
  | w :: ws, x :: a, y :: c, hw, p, h => by
    have hw0 := hw w List.mem_cons_self
    rcases List.mem_cons.mp (show p ∈ (((x + y).fmod w), w) :: (pAdd ws a c).zip ws from h) with e | h
    · subst e
      dsimp only
      rw [fmod_pos hw0]
      exact ⟨Int.emod_nonneg _ (by omega), Int.emod_lt_of_pos _ hw0⟩
    · exact zip_add (fun u hu => hw u (List.mem_cons_of_mem _ hu)) p h
theorem add_St {ws a c : List Int} (h : ∀ w ∈ ws, 0 < w) (ha : St ws a) (hc : St ws c) : St ws (pAdd ws a c) := ⟨pAdd_length ha.1 hc.1, zip_add h⟩
theorem nextS_mem {ws s z : List Int} {f : List (List Int)} (h : ∀ w ∈ ws, 0 < w) (hf : ∀ o ∈ f, St ws o) (hs : St ws s) : z ∈ nextS ws f s ↔ z ∈ f ∨ z = s ∨ ∃ o ∈ f, z = pAdd ws o s := by
  have hl : ∀ y ∈ f ++ [s] ++ f.map fun o => pAdd ws o s, y.length = ws.length := fun y hy => by
    rcases List.mem_append.mp hy with hy | hy
    · rcases List.mem_append.mp hy with hy | hy
      · exact (hf y hy).1
      · rw [List.mem_singleton.mp hy]; exact hs.1
    · obtain ⟨o, ho, rfl⟩ := List.mem_map.mp hy
      exact (add_St h (hf o ho) hs).1
  unfold nextS
  rw [(sset_mem hl).1, List.mem_append, List.mem_append, List.mem_singleton, List.mem_map, or_assoc]
  constructor
  · rintro (h | h | ⟨o, ho, rfl⟩)
    · exact .inl h
    · exact .inr (.inl h)
    · exact .inr (.inr ⟨o, ho, rfl⟩)
  · rintro (h | h | ⟨o, ho, rfl⟩)
    · exact .inl h
    · exact .inr (.inl h)
    · exact .inr (.inr ⟨o, ho, rfl⟩)
theorem nextS_len {ws s : List Int} {f : List (List Int)} (h : ∀ w ∈ ws, 0 < w) (hf : ∀ o ∈ f, St ws o) (hs : St ws s) : ∀ y ∈ f ++ [s] ++ f.map fun o => pAdd ws o s, St ws y := fun y hy => by
  rcases List.mem_append.mp hy with hy | hy
  · rcases List.mem_append.mp hy with hy | hy
    · exact hf y hy
    · rw [List.mem_singleton.mp hy]; exact hs
  · obtain ⟨o, ho, rfl⟩ := List.mem_map.mp hy
    exact add_St h (hf o ho) hs
theorem nextS_ok {ws s : List Int} {f : List (List Int)} (h : ∀ w ∈ ws, 0 < w) (hf : ∀ o ∈ f, St ws o) (hs : St ws s) : (∀ o ∈ nextS ws f s, St ws o) ∧ (nextS ws f s).Pairwise (fun a c => lexB a c = true) :=
  ⟨fun o ho => by
    rcases (nextS_mem h hf hs).mp ho with q | q | ⟨o', ho', rfl⟩
    · exact hf o q
    · rw [q]; exact hs
    · exact add_St h (hf o' ho') hs, sset_asc fun y hy => (nextS_len h hf hs y hy).1⟩
theorem foldl_ok {ws : List Int} (h : ∀ w ∈ ws, 0 < w) : ∀ (row f : List (List Int)), (∀ s ∈ row, St ws s) → (∀ o ∈ f, St ws o) → f.Pairwise (fun a c => lexB a c = true) → (∀ o ∈ row.foldl (nextS ws) f, St ws o) ∧ (row.foldl (nextS ws) f).Pairwise (fun a c => lexB a c = true)
  | [], f, _, hf, hp => ⟨hf, hp⟩
  | s :: row, f, hr, hf, hp => by
    obtain ⟨a, c⟩ := nextS_ok h hf (hr s List.mem_cons_self)
    exact foldl_ok h row _ (fun u hu => hr u (List.mem_cons_of_mem _ hu)) a c
theorem sums_ok {ws : List Int} {row : List (List Int)} (h : ∀ w ∈ ws, 0 < w) (hr : ∀ s ∈ row, St ws s) : (∀ o ∈ pSums ws row, St ws o) ∧ (pSums ws row).Pairwise (fun a c => lexB a c = true) :=
  foldl_ok h row [] hr (fun o ho => by cases ho) List.Pairwise.nil
/-- every step stands in the list of the steps -/
theorem mem_foldl_steps : ∀ (ws : List Int) (init : List (List Int)) (p t : List Int), p ∈ init → St ws t → p ++ t ∈ ws.foldl (fun found w => found.flatMap fun s => (List.range w.toNat).map fun o => s ++ [((o : Nat) : Int)]) init
  | [], init, p, t, hp, ht => by
    have e : t = [] := List.length_eq_zero_iff.mp ht.1
    rw [e, List.append_nil]
    exact hp
  | w :: ws, init, p, [], hp, ht => by have := ht.1; simp at this
  | w :: ws, init, p, x :: t, hp, ht => by
    have hx := ht.2 (x, w) (by rw [List.zip_cons_cons]; exact List.mem_cons_self)
    dsimp only at hx
    have ht' : St ws t := ⟨by have := ht.1; simpa using this, fun q hq => ht.2 q (by rw [List.zip_cons_cons]; exact List.mem_cons_of_mem _ hq)⟩
    rw [List.foldl_cons]
    have e : p ++ x :: t = (p ++ [x]) ++ t := by simp
    rw [e]
    refine mem_foldl_steps ws _ _ t (List.mem_flatMap.mpr ⟨p, hp, List.mem_map.mpr ⟨x.toNat, List.mem_range.mpr (by omega), ?_⟩⟩) ht'
    rw [Int.toNat_of_nonneg hx.1]
theorem mem_steps {ws s : List Int} (h : St ws s) : s ∈ pSteps ws := mem_foldl_steps ws [[]] [] s List.mem_cons_self h
theorem nodup_len {α : Type} [DecidableEq α] : ∀ {l m : List α}, l.Nodup → (∀ x ∈ l, x ∈ m) → l.length ≤ m.length
  | [], _, _, _ => Nat.zero_le _
  | x :: l, m, hn, hs => by
    obtain ⟨h1, h2⟩ := List.nodup_cons.mp hn
    have hx : x ∈ m := hs x List.mem_cons_self
    have ih := nodup_len (l := l) (m := m.erase x) h2 fun y hy => (List.mem_erase_of_ne fun e => h1 (by rw [← e]; exact hy)).2 (hs y (List.mem_cons_of_mem _ hy))
    have e := List.length_erase_of_mem hx
    have hp : 0 < m.length := List.length_pos_of_mem hx
    rw [List.length_cons]
    omega
theorem sums_few {ws : List Int} {row : List (List Int)} (h : ∀ w ∈ ws, 0 < w) (hr : ∀ s ∈ row, St ws s) : (pSums ws row).length ≤ (pSteps ws).length :=
  nodup_len (asc_nodup (sums_ok h hr).2) fun x hx => mem_steps ((sums_ok h hr).1 x hx)
theorem ssOk_St {ws : List Int} (h : OkW ws) (h1 : ws ≠ []) {l : List (List Int)} (hl : l.length < 64) (hne : l ≠ []) (hs : ∀ y ∈ l, St ws y) : ssOk l = true := by
  cases l with
  | nil => exact absurd rfl hne
  | cons a l =>
    unfold ssOk tOk
    have ha := hs a List.mem_cons_self
    have hp : 0 < ws.length := List.length_pos_iff.mpr h1
    rw [decide_eq_true hl, Bool.true_and, Bool.and_eq_true, decide_eq_true_eq, List.all_eq_true]
    refine ⟨by show 1 ≤ a.length; rw [ha.1]; exact hp, fun y hy => ?_⟩
    have hy' := hs y hy
    rw [Bool.and_eq_true, beq_iff_eq, List.all_eq_true]
    refine ⟨by show y.length = a.length; rw [hy'.1, ha.1], fun i hi => ?_⟩
    have := hy'.bound (fun w hw => (h.ge w hw).2) i hi
    rw [Bool.and_eq_true, decide_eq_true_eq, decide_eq_true_eq]
    have hb : BB = 4096 := rfl
    omega
theorem dAdd_lst {a c : List D} (h : a.length + c.length ≤ 1000) : dAdd (.lst a) (.lst c) = some (.lst (a ++ c)) := by
  show (if _ then _ else _) = _
  rw [if_pos (by omega)]
theorem lsums_eq {ws : List Int} {row : List (List Int)} (h : OkW ws) (h1 : ws ≠ []) (hz : (pSteps ws).length ≤ 30) (hr : ∀ s ∈ row, St ws s) : ∃ ρ, RD.F__law_sums [.d (T ws), .d (.tup (row.map T))] = .ok (.lst ((pSums ws row).map T)) ρ := by
  obtain ⟨ρ', e, done, left, e1, e2, o3, rfl⟩ := for_inv (t := tgN 3) (g := gSet 2 (aLst (aSS (a2 dAdd (a2 dAdd (aV 2) (aLst (fLst (aCons (aV 3) aNil)))) (aLst (aComp [4] (aI (aV 2)) (tgN 4) cYes (aCall 3 RD.F__law_added (aCons (aV 0) (aCons (aV 4) (aCons (aV 3) aNil))))))))))
    (fun rest ρ => ∃ done left, row = done ++ left ∧ rest = left.map T ∧ ∃ o3, ρ = [some (.d (T ws)), some (.d (.tup (row.map T))), some (.d (.lst ((pSums ws done).map T))), o3, none])
    (row.map T) [some (.d (T ws)), some (.d (.tup (row.map T))), some (.d (.lst [])), none, none] (fun d rest ρ ⟨done, left, e1, e2, o3, e3⟩ => by
      subst e3
      cases left with
      | nil => cases e2
      | cons s left =>
        rw [List.map_cons] at e2
        obtain ⟨rfl, rfl⟩ := List.cons.inj e2
        have hs : St ws s := hr s (by rw [e1]; simp)
        have hd : ∀ u ∈ done, St ws u := fun u hu => hr u (by rw [e1]; exact List.mem_append_left _ hu)
        obtain ⟨ok, _⟩ := sums_ok h.pos' hd
        have few := sums_few h.pos' hd
        have hso : ssOk (pSums ws done ++ [s] ++ (pSums ws done).map fun o => pAdd ws o s) = true := ssOk_St h h1 (by simp; omega) (by simp) (nextS_len h.pos' ok hs)
        refine ⟨[some (.d (T ws)), some (.d (.tup (row.map T))), some (.d (.lst ((pSums ws done).map T))), some (.d (T s)), none], [some (.d (T ws)), some (.d (.tup (row.map T))), some (.d (.lst ((pSums ws (done ++ [s])).map T))), some (.d (T s)), none], rfl, st_last ?_, done ++ [s], left, by rw [e1]; simp, rfl, _, rfl⟩
        have t1 : To (aComp [4] (aI (aV 2)) (tgN 4) cYes (aCall 3 RD.F__law_added (aCons (aV 0) (aCons (aV 4) (aCons (aV 3) aNil))))) [some (.d (T ws)), some (.d (.tup (row.map T))), some (.d (.lst ((pSums ws done).map T))), some (.d (T s)), none] (((pSums ws done).map fun o => pAdd ws o s).map T) [some (.d (T ws)), some (.d (.tup (row.map T))), some (.d (.lst ((pSums ws done).map T))), some (.d (T s)), none] := by
          have := to_map (vs := [4]) (t := tgN 4) (f := aCall 3 RD.F__law_added (aCons (aV 0) (aCons (aV 4) (aCons (aV 3) aNil)))) (ρ := [some (.d (T ws)), some (.d (.tup (row.map T))), some (.d (.lst ((pSums ws done).map T))), some (.d (T s)), none]) (fi := aI (aV 2)) (ds := (pSums ws done).map T)
            (fun d => match tI1 d with | some o => T (pAdd ws o s) | none => .non) (to_bind (to_V (d := .lst ((pSums ws done).map T)) rfl) (to_lift rfl)) rfl (by rw [List.length_map]; omega) (fun d hd => by
              obtain ⟨o, ho, rfl⟩ := List.mem_map.mp hd
              refine ⟨[some (.d (T ws)), some (.d (.tup (row.map T))), some (.d (.lst ((pSums ws done).map T))), some (.d (T s)), some (.d (T o))], rfl, ?_, rfl⟩
              show To _ _ (match tIs (o.map .int) with | some o => T (pAdd ws o s) | none => .non) _
              rw [tIs_ints]
              exact to_call (to_cons (to_V (d := T ws) rfl) (to_cons (to_V (d := T o) rfl) (to_cons (to_V (d := T s) rfl) to_nil))) rfl (ladded_eq h.nz (by have := h.len; omega) (ok o ho).1 hs.1))
          rw [List.map_map] at this
          rw [List.map_map]
          have e5 : (pSums ws done).map ((fun d => match tI1 d with | some o => T (pAdd ws o s) | none => D.non) ∘ T) = (pSums ws done).map (T ∘ fun o => pAdd ws o s) := List.map_congr_left fun o _ => by
            show (match tIs (o.map .int) with | some o => T (pAdd ws o s) | none => .non) = _
            rw [tIs_ints]
            rfl
          rw [e5] at this
          exact this
        refine st_set (ρ1 := [some (.d (T ws)), some (.d (.tup (row.map T))), some (.d (.lst ((pSums ws done).map T))), some (.d (T s)), none]) (d := .lst ((pSums ws (done ++ [s])).map T)) ?_ st_end
        rw [pSums_snoc]
        refine to_bind (x := (nextS ws (pSums ws done) s).map T) (to_bind (x := .lst ((pSums ws done ++ [s] ++ (pSums ws done).map fun o => pAdd ws o s).map T)) ?_ (to_lift (dSS_T hso))) rfl
        rw [List.map_append, List.map_append]
        refine to_2 (x := .lst ((pSums ws done).map T ++ [s].map T)) (y := .lst (((pSums ws done).map fun o => pAdd ws o s).map T)) ?_ (to_bind t1 rfl) (dAdd_lst (by simp; omega))
        exact to_2 (x := .lst ((pSums ws done).map T)) (y := .lst [T s]) (to_V rfl) rfl (dAdd_lst (by simp; omega))) ⟨[], row, rfl, rfl, none, rfl⟩
  have e4 : left = [] := by
    cases left with
    | nil => rfl
    | cons a b => cases e2
  subst e4
  rw [List.append_nil] at e1
  unfold RD.F__law_sums RD.g__law_sums
  refine ⟨[some (.d (T ws)), some (.d (.tup (row.map T))), some (.d (.lst ((pSums ws done).map T))), o3, none], fn_ok (ρ := [some (.d (T ws)), some (.d (.tup (row.map T))), none, none, none]) rfl ?_⟩
  refine st_set (ρ1 := [some (.d (T ws)), some (.d (.tup (row.map T))), none, none, none]) (d := .lst []) rfl ?_
  refine st_for (to_bind (to_V (d := .tup (row.map T)) rfl) (to_lift rfl)) e ?_
  refine st_last ?_
  rw [e1]
  exact st_ret (to_V rfl)
/-! ### what is told leads never home -/
theorem pAdd_timesB : ∀ {ws s : List Int} {a c : Int}, (∀ w ∈ ws, 0 < w) → pAdd ws (pTimes ws s a) (pTimes ws s c) = pTimes ws s (a + c)
  | [], [], _, _, _ => rfl
  | [], _ :: _, _, _, _ => rfl
  | _ :: _, [], _, _, _ => rfl
  | w :: ws, x :: s, a, c, h => by
    have hw := h w List.mem_cons_self
    show ((x * a).fmod w + (x * c).fmod w).fmod w :: pAdd ws (pTimes ws s a) (pTimes ws s c) = (x * (a + c)).fmod w :: pTimes ws s (a + c)
    rw [pAdd_timesB fun u hu => h u (List.mem_cons_of_mem _ hu), fmod_pos hw, fmod_pos hw, fmod_pos hw, fmod_pos hw, Int.mul_add, ← Int.add_emod]
theorem told_fold {ws s : List Int} (hw : ∀ w ∈ ws, 0 < w) (hs : St ws s) : ∀ (ns : List Int) (f : List (List Int)) (B : Int), 0 ≤ B → (∀ n ∈ ns, 1 ≤ n) → (∀ z ∈ f, ∃ m : Int, 1 ≤ m ∧ m ≤ B ∧ z = pTimes ws s m) → (∀ o ∈ f, St ws o) → ∀ z ∈ (ns.map fun n => pTimes ws s n).foldl (nextS ws) f, ∃ m : Int, 1 ≤ m ∧ m ≤ B + ns.sum ∧ z = pTimes ws s m
  | [], f, B, _, _, hf, _, z, hz => by
    obtain ⟨m, h1, h2, h3⟩ := hf z hz
    exact ⟨m, h1, by simp; omega, h3⟩
  | n :: ns, f, B, hB, hn, hf, ho, z, hz => by
    have n1 := hn n List.mem_cons_self
    have tst : St ws (pTimes ws s n) := ⟨pTimes_length hs.1, zip_times hw⟩
    obtain ⟨ok, _⟩ := nextS_ok hw ho tst
    obtain ⟨m, h1, h2, h3⟩ := told_fold hw hs ns (nextS ws f (pTimes ws s n)) (B + n) (by omega) (fun k hk => hn k (List.mem_cons_of_mem _ hk)) (fun y hy => by
      rcases (nextS_mem hw ho tst).mp hy with q | q | ⟨o, q, rfl⟩
      · obtain ⟨m, h1, h2, h3⟩ := hf y q
        exact ⟨m, h1, by omega, h3⟩
      · exact ⟨n, n1, by omega, q⟩
      · obtain ⟨m, h1, h2, h3⟩ := hf o q
        exact ⟨m + n, by omega, by omega, by rw [h3, pAdd_timesB hw]⟩) ok z hz
    exact ⟨m, h1, by rw [List.sum_cons]; omega, h3⟩
theorem tell_parts {ws : List Int} {row : List (List Int)} {p : List Int × List Int} (h : p ∈ pTell ws row) : p.1 ∈ pSteps ws ∧ p.2.length = row.length ∧ (∀ n ∈ p.2, 1 ≤ n) ∧ p.2.sum ≤ pK ws p.1 ∧ row = p.2.map fun n => pTimes ws p.1 n := by
  obtain ⟨s, hs, e⟩ := List.mem_filterMap.mp h
  unfold tellOf at e
  cases hn : pNums ws s row with
  | none => rw [hn] at e; cases e
  | some ns =>
    rw [hn] at e
    dsimp only at e
    split at e
    · rename_i hc
      cases e
      unfold pNums at hn
      split at hn
      · rename_i hall
        cases hn
        have hf := List.all_eq_true.mp hall
        refine ⟨hs, by simp, fun n hn => ?_, by dsimp only; omega, ?_⟩
        · obtain ⟨x, hx, rfl⟩ := List.mem_map.mp hn
          omega
        · rw [List.map_map]
          conv => lhs; rw [← List.map_id row]
          refine List.map_congr_left fun x hx => ?_
          obtain ⟨i, hi⟩ := Option.isSome_iff_exists.mp (hf x hx)
          show x = pTimes ws s ((((pFind ws s (pK ws s) x).getD 0 : Nat) : Int) + 1)
          rw [hi]
          exact (pFind_some hi).2.symm
      · cases hn
    · cases e
theorem told_sums {ws : List Int} {row : List (List Int)} {p : List Int × List Int} (hw : OkW ws) (h : p ∈ pTell ws row) : ∀ z ∈ pSums ws row, ∃ m : Int, 1 ≤ m ∧ m ≤ p.2.sum ∧ z = pTimes ws p.1 m := fun z hz => by
  obtain ⟨hs, _, hn, _, er⟩ := tell_parts h
  rw [er] at hz
  obtain ⟨m, h1, h2, h3⟩ := told_fold hw.pos' (hw.st _ hs) p.2 [] 0 (by omega) hn (fun z hz => by cases hz) (fun z hz => by cases hz) z hz
  exact ⟨m, h1, by omega, h3⟩
theorem told_out {ws : List Int} {row : List (List Int)} {p : List Int × List Int} (hw : OkW ws) (h : p ∈ pTell ws row) : pHome ws ∉ pSums ws row := fun hz => by
  obtain ⟨m, h1, h2, h3⟩ := told_sums hw h _ hz
  obtain ⟨hs, _, _, hk, _⟩ := tell_parts h
  have := (ordk_times hw.pos' (hw.st _ hs) (hw.ord _ hs).2).1 m.toNat (by omega) (by omega)
  rw [Int.toNat_of_nonneg (by omega)] at this
  exact this h3.symm
end DL
end
section
set_option Elab.async false
set_option linter.all false
set_option maxRecDepth 100000
set_option maxHeartbeats 2000000
namespace DL
open PySem PySem.Spec PyProof.Rows L2
/-! ### the law's lists; tellers by small numbers -/
abbrev rowD (line : List (List Int)) : D := .tup (line.map T)
theorem alikeAll_ints : ∀ s y : List Int, PySem.W.alikeAll (s.map PyData.int) (y.map PyData.int) = true
  | [], _ => by rw [List.map_nil, PySem.W.alikeAll]
  | _ :: _, [] => by rw [List.map_cons, List.map_nil, PySem.W.alikeAll]
  | a :: s, c :: y => by
    rw [List.map_cons, List.map_cons, PySem.W.alikeAll, alikeAll_ints s y, PySem.W.alike]
    rfl
theorem lex_T : ∀ {s y : List Int}, s.length = y.length → PyProof.Rows.lexLt itemOrd (PySem.W.keyToksAll (s.map PyData.int)) (PySem.W.keyToksAll (y.map PyData.int)) = lexB s y
  | [], [], _ => by
    rw [List.map_nil, PySem.W.keyToksAll, lex_self]
    rfl
  | [], _ :: _, h => by cases h
  | _ :: _, [], h => by cases h
  | a :: s, c :: y, h => by
    have hl : s.length = y.length := by simpa using h
    rw [List.map_cons, List.map_cons, PySem.W.keyToksAll, PySem.W.keyToksAll, lex_self, PySem.W.keyToks, PySem.W.keyToks]
    show lexLt itemOrd (Sum.inl a :: PySem.W.keyToksAll (s.map PyData.int)) (Sum.inl c :: PySem.W.keyToksAll (y.map PyData.int)) = (decide (a < c) || (decide (a = c) && lexB s y))
    by_cases e : a = c
    · subst e
      rw [lex_self, lex_T hl]
      simp
    · rw [lex_diff (O := itemOrd) (fun z => e (Sum.inl.inj z))]
      show decide (a < c) = _
      rw [decide_eq_false e]
      simp
theorem dLtB_T {s y : List Int} (h : s.length = y.length) : dLtB (T s) (T y) = lexB s y := by
  show PySem.W.dataLt (T s).py (T y).py = _
  rw [D.py, D.py, pys_ints, pys_ints]
  show lexLt itemOrd (PySem.W.keyToks (.tuple _)) (PySem.W.keyToks (.tuple _)) = _
  rw [PySem.W.keyToks, PySem.W.keyToks, lex_T h]
theorem dGeD_T {s y : List Int} (h : s.length = y.length) : dGeD (T s) (T y) = some (.bl (!lexB s y)) := by
  unfold dGeD
  rw [if_pos, dLtB_T h]
  refine ⟨?_, Nat.le_trans (sh_T s).dep (by omega), rfl⟩
  rw [(sh_T s).ok, (sh_T y).ok]
  show PySem.W.alike (T s).py (T y).py = true
  rw [D.py, D.py, pys_ints, pys_ints, PySem.W.alike]
  exact alikeAll_ints s y
theorem atI_last {α : Type} {xs : List α} {y : α} (h : xs.getLast? = some y) : atI xs (-1) = some y := by
  have hne : xs ≠ [] := fun e => by rw [e] at h; cases h
  have hp : 0 < xs.length := List.length_pos_iff.mpr hne
  unfold atI ixN
  rw [if_neg (by omega), if_pos (by omega)]
  show xs[(-1 + (xs.length : Int)).toNat]? = _
  rw [List.getLast?_eq_getElem?] at h
  have e : (-1 + (xs.length : Int)).toNat = xs.length - 1 := by omega
  rw [e, h]
def okL (line : List (List Int)) (s : List Int) : Bool := match line.getLast? with
  | none => true
  | some y => !lexB s y
def extL (steps line : List (List Int)) : List (List (List Int)) := (steps.filter (okL line)).map fun s => line ++ [s]
def nextL (steps : List (List Int)) (f : List (List (List Int))) : List (List (List Int)) := f.flatMap (extL steps)
def pLists (steps : List (List Int)) : Nat → List (List (List Int))
  | 0 => [[]]
  | k + 1 => nextL steps (pLists steps k)
theorem mem_lists {steps : List (List Int)} : ∀ {k : Nat} {line : List (List Int)}, line ∈ pLists steps k → line.length = k ∧ ∀ s ∈ line, s ∈ steps
  | 0, line, h => by
    rw [List.mem_singleton.mp h]
    exact ⟨rfl, fun s hs => by cases hs⟩
  | k + 1, line, h => by
    obtain ⟨l, hl, h2⟩ := List.mem_flatMap.mp h
    obtain ⟨s, hs, rfl⟩ := List.mem_map.mp h2
    obtain ⟨e1, e2⟩ := mem_lists hl
    refine ⟨by simp [e1], fun u hu => ?_⟩
    rcases List.mem_append.mp hu with hu | hu
    · exact e2 u hu
    · rw [List.mem_singleton.mp hu]; exact (List.mem_filter.mp hs).1
theorem llists_eq {steps : List (List Int)} {k L : Nat} (hs : ∀ s ∈ steps, s.length = L) (hn : steps.length ≤ 1000) (hk : k ≤ 1000) (hb : ∀ j, j ≤ k → (pLists steps j).length ≤ 1000000) : ∃ ρ, RD.F__law_lists [.d (.lst (steps.map T)), .d (.int k)] = .ok (.lst ((pLists steps k).map rowD)) ρ := by
  let E : D → D → Option Cell → Option Cell → Option Cell → DEnv := fun d4 d2 o3 o5 o6 => [some (.d (.lst (steps.map T))), some (.d (.int k)), some (.d d2), o3, some (.d d4), o5, o6]
  -- one line's longer lines
  have one : ∀ (line : List (List Int)) (d4 d2 : D) (o3 : Option Cell), (∀ s ∈ line, s ∈ steps) → line.length ≤ 1000 → To (aComp [6] (aI (aV 0)) (tgN 6) (cOr (cB (a2 (dEq false) (aV 5) (aN dTup aNil))) (cB (a2 dGeD (aV 6) (a2 dIx (aV 5) (a1 dNeg (aC (.int 1))))))) (a2 dAdd (aV 5) (aN dTup (aCons (aV 6) aNil)))) (E d4 d2 o3 (some (.d (rowD line))) none) ((extL steps line).map rowD) (E d4 d2 o3 (some (.d (rowD line))) none) := fun line d4 d2 o3 hline hlen => by
    have := to_filter (vs := [6]) (t := tgN 6) (c := cOr (cB (a2 (dEq false) (aV 5) (aN dTup aNil))) (cB (a2 dGeD (aV 6) (a2 dIx (aV 5) (a1 dNeg (aC (.int 1))))))) (f := a2 dAdd (aV 5) (aN dTup (aCons (aV 6) aNil))) (ρ := E d4 d2 o3 (some (.d (rowD line))) none) (fi := aI (aV 0)) (ds := steps.map T)
      (fun d => match tI1 d with | some s => okL line s | none => false) (fun d => match tI1 d with | some s => rowD (line ++ [s]) | none => .non) (to_bind (to_V (d := .lst (steps.map T)) rfl) (to_lift rfl)) rfl (by rw [List.length_map]; omega) (fun d hd => by
        obtain ⟨s, hs', rfl⟩ := List.mem_map.mp hd
        have e0 : tI1 (T s) = some s := tIs_ints s
        refine ⟨E d4 d2 o3 (some (.d (rowD line))) (some (.d (T s))), rfl, ?_, fun _ => ?_, rfl⟩
        · rw [e0]
          have t1 : To (cB (a2 (dEq false) (aV 5) (aN dTup aNil))) (E d4 d2 o3 (some (.d (rowD line))) (some (.d (T s)))) (decide (line = [])) (E d4 d2 o3 (some (.d (rowD line))) (some (.d (T s)))) := to_cB (to_2 (to_V (d := rowD line) rfl) (to_N to_nil rfl) (by
            rw [dEq_nilT false (n := 1) sh_TT (by omega), Bool.false_xor]
            simp))
          show To _ _ (okL line s) _
          unfold okL
          cases hg : line.getLast? with
          | none =>
            rw [decide_eq_true (List.getLast?_eq_none_iff.mp hg)] at t1
            exact to_or_t t1
          | some y =>
            have hne : line ≠ [] := fun e => by rw [e] at hg; cases hg
            rw [decide_eq_false hne] at t1
            have hy : y ∈ line := List.mem_of_getLast? hg
            exact to_or_f t1 (to_cB (to_2 (to_V (d := T s) rfl) (to_2 (to_V (d := rowD line) rfl) (to_1 to_C (d := .int (-1)) rfl) (show atI (line.map T) (-1) = some (T y) from atI_last (by rw [List.getLast?_map, hg]; rfl))) (dGeD_T ((hs s hs').trans (hs y (hline y hy)).symm))))
        · rw [e0]
          refine to_2 (to_V (d := rowD line) rfl) (to_N (to_cons (to_V (d := T s) rfl) to_nil) (d := .tup [T s]) rfl) ?_
          show (if (line.map T).length + [T s].length ≤ 16000000 then some (D.tup (line.map T ++ [T s])) else none) = some (.tup ((line ++ [s]).map T))
          rw [if_pos (by simp; omega), List.map_append]
          rfl)
    have e5 : ((steps.map T).filter fun d => match tI1 d with | some s => okL line s | none => false).map (fun d => match tI1 d with | some s => rowD (line ++ [s]) | none => .non) = (extL steps line).map rowD := by
      rw [List.filter_map, List.map_map]
      unfold extL
      rw [List.map_map]
      have e6 : (steps.filter ((fun d => match tI1 d with | some s => okL line s | none => false) ∘ T)) = steps.filter (okL line) := List.filter_congr fun s _ => by
        show (match tIs (s.map .int) with | some s => okL line s | none => false) = _
        rw [tIs_ints]
      rw [e6]
      refine List.map_congr_left fun s _ => ?_
      show (match tIs (s.map .int) with | some s => rowD (line ++ [s]) | none => .non) = _
      rw [tIs_ints]
      rfl
    rw [e5] at this
    exact this
  -- the lists of j, made longer
  have two : ∀ (j : Nat) (o3 o5 : Option Cell), j + 1 ≤ k → ∃ o5', gForL (tgN 5) (gSet 4 (a2 dAdd (aV 4) (aLst (aComp [6] (aI (aV 0)) (tgN 6) (cOr (cB (a2 (dEq false) (aV 5) (aN dTup aNil))) (cB (a2 dGeD (aV 6) (a2 dIx (aV 5) (a1 dNeg (aC (.int 1))))))) (a2 dAdd (aV 5) (aN dTup (aCons (aV 6) aNil))))))) ((pLists steps j).map rowD) (E (.lst []) (.lst ((pLists steps j).map rowD)) o3 o5 none) = .nx (E (.lst ((pLists steps (j + 1)).map rowD)) (.lst ((pLists steps j).map rowD)) o3 o5' none) := fun j o3 o5 hj => by
    obtain ⟨ρ', e, done, left, e1, e2, o5', rfl⟩ := for_inv (t := tgN 5) (g := gSet 4 (a2 dAdd (aV 4) (aLst (aComp [6] (aI (aV 0)) (tgN 6) (cOr (cB (a2 (dEq false) (aV 5) (aN dTup aNil))) (cB (a2 dGeD (aV 6) (a2 dIx (aV 5) (a1 dNeg (aC (.int 1))))))) (a2 dAdd (aV 5) (aN dTup (aCons (aV 6) aNil)))))))
      (fun rest ρ => ∃ done left, pLists steps j = done ++ left ∧ rest = left.map rowD ∧ ∃ o5, ρ = E (.lst ((nextL steps done).map rowD)) (.lst ((pLists steps j).map rowD)) o3 o5 none)
      ((pLists steps j).map rowD) (E (.lst []) (.lst ((pLists steps j).map rowD)) o3 o5 none) (fun d rest ρ ⟨done, left, e1, e2, o5, e3⟩ => by
        subst e3
        cases left with
        | nil => cases e2
        | cons line left =>
          rw [List.map_cons] at e2
          obtain ⟨rfl, rfl⟩ := List.cons.inj e2
          obtain ⟨m1, m2⟩ := mem_lists (steps := steps) (k := j) (line := line) (by rw [e1]; simp)
          have hlen : (nextL steps done).length + (extL steps line).length ≤ 1000000 := by
            have h1 := hb (j + 1) hj
            have h2 : pLists steps (j + 1) = nextL steps done ++ (extL steps line ++ nextL steps left) := by
              show nextL steps (pLists steps j) = _
              rw [e1]
              unfold nextL
              rw [List.flatMap_append, List.flatMap_cons]
            rw [h2, List.length_append, List.length_append] at h1
            omega
          refine ⟨E (.lst ((nextL steps done).map rowD)) (.lst ((pLists steps j).map rowD)) o3 (some (.d (rowD line))) none, E (.lst ((nextL steps (done ++ [line])).map rowD)) (.lst ((pLists steps j).map rowD)) o3 (some (.d (rowD line))) none, rfl, ?_, done ++ [line], left, by rw [e1]; simp, rfl, _, rfl⟩
          refine st_last (st_set (ρ1 := E (.lst ((nextL steps done).map rowD)) (.lst ((pLists steps j).map rowD)) o3 (some (.d (rowD line))) none) (d := .lst ((nextL steps (done ++ [line])).map rowD)) ?_ st_end)
          refine to_2 (to_V (d := .lst ((nextL steps done).map rowD)) rfl) (to_bind (one line _ _ o3 m2 (by omega)) rfl) ?_
          show (if ((nextL steps done).map rowD).length + ((extL steps line).map rowD).length ≤ 16000000 then some (D.lst ((nextL steps done).map rowD ++ (extL steps line).map rowD)) else none) = _
          rw [if_pos (by rw [List.length_map, List.length_map]; omega)]
          unfold nextL
          rw [List.flatMap_append, List.flatMap_cons, List.flatMap_nil, List.append_nil, List.map_append]) ⟨[], pLists steps j, rfl, rfl, o5, rfl⟩
    have e4 : left = [] := by
      cases left with
      | nil => rfl
      | cons a b => cases e2
    subst e4
    rw [List.append_nil] at e1
    exact ⟨o5', by rw [e]; show Out.nx (E (.lst ((nextL steps done).map rowD)) _ _ _ _) = .nx (E (.lst ((nextL steps (pLists steps j)).map rowD)) _ _ _ _); rw [← e1]⟩
  obtain ⟨ρ', e, j, o3, o4, o5, e2, rfl⟩ := for_inv (t := tgN 3) (g := gSeq (gSet 4 (aLst (fLst aNil))) (gSeq (gFor (aI (aV 2)) (tgN 5) (gSet 4 (a2 dAdd (aV 4) (aLst (aComp [6] (aI (aV 0)) (tgN 6) (cOr (cB (a2 (dEq false) (aV 5) (aN dTup aNil))) (cB (a2 dGeD (aV 6) (a2 dIx (aV 5) (a1 dNeg (aC (.int 1))))))) (a2 dAdd (aV 5) (aN dTup (aCons (aV 6) aNil)))))))) (gSet 2 (aV 4))))
    (fun rest ρ => ∃ j o3 o4 o5, rest.length + j = k ∧ ρ = [some (.d (.lst (steps.map T))), some (.d (.int k)), some (.d (.lst ((pLists steps j).map rowD))), o3, o4, o5, none])
    ((List.range k).map fun i => D.int (i : Nat)) [some (.d (.lst (steps.map T))), some (.d (.int k)), some (.d (.lst [.tup []])), none, none, none, none] (fun d rest ρ ⟨j, o3, o4, o5, e2, e3⟩ => by
      subst e3
      rw [List.length_cons] at e2
      obtain ⟨o5', e4⟩ := two j (some (.d d)) o5 (by omega)
      refine ⟨[some (.d (.lst (steps.map T))), some (.d (.int k)), some (.d (.lst ((pLists steps j).map rowD))), some (.d d), o4, o5, none], [some (.d (.lst (steps.map T))), some (.d (.int k)), some (.d (.lst ((pLists steps (j + 1)).map rowD))), some (.d d), some (.d (.lst ((pLists steps (j + 1)).map rowD))), o5', none], rfl, ?_, j + 1, some (.d d), _, o5', by omega, rfl⟩
      refine st_set (ρ1 := [some (.d (.lst (steps.map T))), some (.d (.int k)), some (.d (.lst ((pLists steps j).map rowD))), some (.d d), o4, o5, none]) (d := .lst []) rfl ?_
      refine st_for (ρ1 := E (.lst []) (.lst ((pLists steps j).map rowD)) (some (.d d)) o5 none) (to_bind (to_V (d := .lst ((pLists steps j).map rowD)) rfl) (to_lift rfl)) e4 ?_
      exact st_last (st_set (ρ1 := E (.lst ((pLists steps (j + 1)).map rowD)) (.lst ((pLists steps j).map rowD)) (some (.d d)) o5' none) (d := .lst ((pLists steps (j + 1)).map rowD)) (to_V rfl) st_end)) ⟨0, none, none, none, by simp, rfl⟩
  have ej : j = k := by simpa using e2
  subst ej
  unfold RD.F__law_lists RD.g__law_lists
  refine ⟨[some (.d (.lst (steps.map T))), some (.d (.int j)), some (.d (.lst ((pLists steps j).map rowD))), o3, o4, o5, none], fn_ok (ρ := [some (.d (.lst (steps.map T))), some (.d (.int j)), none, none, none, none, none]) rfl ?_⟩
  refine st_set (ρ1 := [some (.d (.lst (steps.map T))), some (.d (.int j)), none, none, none, none, none]) (d := .lst [.tup []]) rfl ?_
  refine st_for (to_bind (to_cons (to_V (d := .int j) rfl) to_nil) (to_lift (range1_nat (by omega)))) e ?_
  exact st_last (st_ret (to_V rfl))
/-! ### few_of, has_few -/
def fewB (row : List (List Int)) (p : List Int × List Int) : Bool := decide (p.2.sum ≤ 2 * (row.length : Int) - 2)
def pFew (ws : List Int) (row : List (List Int)) : Option (List Int × List Int) := (pTell ws row).find? (fewB row)
def fewD : Option (List Int × List Int) → D
  | some p => tellD p
  | none => .non
theorem for_rt1 {t : Tg} {g : GS} {d v : D} {ds : List D} {ρ ρ1 ρ2 : DEnv} (e1 : t d ρ = some ρ1) (e2 : g ρ1 = .rt v ρ2) : gForL t g (d :: ds) ρ = .rt v ρ2 := by unfold gForL; simp only [e1, e2]
theorem for_nx1 {t : Tg} {g : GS} {d : D} {ds : List D} {ρ ρ1 ρ2 : DEnv} (e1 : t d ρ = some ρ1) (e2 : g ρ1 = .nx ρ2) : gForL t g (d :: ds) ρ = gForL t g ds ρ2 := by
  conv => lhs; unfold gForL
  simp only [e1, e2]
theorem few_loop {ws : List Int} {row : List (List Int)} (hl : row.length ≤ 1000000) : ∀ (l : List (List Int × List Int)) (o2 o3 : Option Cell), ∃ ρ', gForL (tgT 2 (tgCons (tgN 2) (tgCons (tgN 3) tgNil))) (gIf (cB (a2 (dCmpI (fun i j => decide (i ≤ j))) (aN dSum (aCons (aV 3) aNil)) (a2 dSub (a2 dMul2 (aC (.int 2)) (aN dLen (aCons (aV 1) aNil))) (aC (.int 2))))) (gRet (aN dTup (aCons (aV 2) (aCons (aV 3) aNil)))) gNext) (l.map tellD) [some (.d (T ws)), some (.d (rowD row)), o2, o3] =
    (match l.find? (fewB row) with | some p => .rt (tellD p) ρ' | none => .nx ρ')
  | [], o2, o3 => ⟨_, rfl⟩
  | p :: l, o2, o3 => by
    have t1 : To (cB (a2 (dCmpI (fun i j => decide (i ≤ j))) (aN dSum (aCons (aV 3) aNil)) (a2 dSub (a2 dMul2 (aC (.int 2)) (aN dLen (aCons (aV 1) aNil))) (aC (.int 2))))) [some (.d (T ws)), some (.d (rowD row)), some (.d (T p.1)), some (.d (T p.2))] (fewB row p) [some (.d (T ws)), some (.d (rowD row)), some (.d (T p.1)), some (.d (T p.2))] := by
      refine to_cB (to_2 (to_N (to_cons (to_V (d := T p.2) rfl) to_nil) (dSum_T p.2)) (to_2 (x := .int (2 * row.length)) (to_2 (x := .int 2) to_C (to_N (to_cons (to_V (d := rowD row) rfl) to_nil) (d := .int row.length) ?_) ?_) to_C (d := .int (2 * (row.length : Int) - 2)) rfl) rfl)
      · show some (D.int (row.map T).length) = _
        rw [List.length_map]
      · show dMul2 (.int 2) (.int row.length) = _
        unfold dMul2 dMul
        exact if_pos (by omega)
    rw [List.find?_cons]
    cases hf : fewB row p with
    | true =>
      rw [hf] at t1
      have e1 : gIf (cB (a2 (dCmpI (fun i j => decide (i ≤ j))) (aN dSum (aCons (aV 3) aNil)) (a2 dSub (a2 dMul2 (aC (.int 2)) (aN dLen (aCons (aV 1) aNil))) (aC (.int 2))))) (gRet (aN dTup (aCons (aV 2) (aCons (aV 3) aNil)))) gNext [some (.d (T ws)), some (.d (rowD row)), some (.d (T p.1)), some (.d (T p.2))] = .rt (tellD p) [some (.d (T ws)), some (.d (rowD row)), some (.d (T p.1)), some (.d (T p.2))] :=
        st_last (st_if_t t1 (st_ret (to_N (to_cons (to_V (d := T p.1) rfl) (to_cons (to_V (d := T p.2) rfl) to_nil)) rfl)))
      exact ⟨_, for_rt1 (ρ1 := [some (.d (T ws)), some (.d (rowD row)), some (.d (T p.1)), some (.d (T p.2))]) rfl e1⟩
    | false =>
      rw [hf] at t1
      have e1 : gIf (cB (a2 (dCmpI (fun i j => decide (i ≤ j))) (aN dSum (aCons (aV 3) aNil)) (a2 dSub (a2 dMul2 (aC (.int 2)) (aN dLen (aCons (aV 1) aNil))) (aC (.int 2))))) (gRet (aN dTup (aCons (aV 2) (aCons (aV 3) aNil)))) gNext [some (.d (T ws)), some (.d (rowD row)), some (.d (T p.1)), some (.d (T p.2))] = .nx [some (.d (T ws)), some (.d (rowD row)), some (.d (T p.1)), some (.d (T p.2))] :=
        st_last (st_if_f t1 (st_next st_end))
      obtain ⟨ρ', e⟩ := few_loop hl l (some (.d (T p.1))) (some (.d (T p.2)))
      exact ⟨ρ', (for_nx1 (ρ1 := [some (.d (T ws)), some (.d (rowD row)), some (.d (T p.1)), some (.d (T p.2))]) rfl e1).trans e⟩
theorem few_eq {ws : List Int} {row : List (List Int)} (h : OkW ws) (hl : row.length ≤ 1000000) : ∃ ρ, RD.F_few_of [.d (T ws), .d (rowD row)] = .ok (fewD (pFew ws row)) ρ := by
  obtain ⟨ρt, et⟩ := tellers_eq (row := row) h hl
  obtain ⟨ρ', e⟩ := few_loop (ws := ws) (row := row) hl (pTell ws row) none none
  unfold RD.F_few_of RD.g_few_of
  have hfi : To (aI (aCall 2 RD.F_tellers_of (aCons (aV 0) (aCons (aV 1) aNil)))) [some (.d (T ws)), some (.d (rowD row)), none, none] ((pTell ws row).map tellD) [some (.d (T ws)), some (.d (rowD row)), none, none] := to_bind (to_call (to_cons (to_V (d := T ws) rfl) (to_cons (to_V (d := rowD row) rfl) to_nil)) rfl et) (to_lift rfl)
  unfold pFew
  cases hf : (pTell ws row).find? (fewB row) with
  | none =>
    rw [hf] at e
    exact ⟨ρ', fn_ok (ρ := [some (.d (T ws)), some (.d (rowD row)), none, none]) rfl (st_for hfi e (st_last (st_ret to_C)))⟩
  | some p =>
    rw [hf] at e
    refine ⟨ρ', fn_ok (ρ := [some (.d (T ws)), some (.d (rowD row)), none, none]) rfl ?_⟩
    unfold To at hfi
    unfold gSeq gFor gOf
    rw [hfi]
    dsimp only
    rw [e]
    rfl
theorem has_few_eq {ws : List Int} {row : List (List Int)} (h : OkW ws) (hr : ∀ s ∈ row, St ws s) (hl : row.length ≤ 40) : ∃ ρ, RD.F_has_few [.d (T ws), .d (rowD row)] = .ok (.bl (pFew ws row).isSome) ρ := by
  obtain ⟨ρ1, e1⟩ := h.need
  obtain ⟨ρ2, e2⟩ := need_row_eq hr hl
  obtain ⟨ρ3, e3⟩ := few_eq (row := row) h (by omega)
  unfold RD.F_has_few RD.g_has_few
  refine ⟨[some (.d (T ws)), some (.d (rowD row))], fn_ok (ρ := [some (.d (T ws)), some (.d (rowD row))]) rfl ?_⟩
  refine st_drop (to_call (to_cons (to_V (d := T ws) rfl) to_nil) rfl e1) (st_drop (to_call (to_cons (to_V (d := T ws) rfl) (to_cons (to_V (d := rowD row) rfl) to_nil)) rfl e2) (st_last (st_ret ?_)))
  refine to_2 (to_call (to_cons (to_V (d := T ws) rfl) (to_cons (to_V (d := rowD row) rfl) to_nil)) rfl e3) to_C ?_
  cases pFew ws row <;> rfl
end DL
end
section
set_option Elab.async false
set_option linter.all false
set_option maxRecDepth 100000
set_option maxHeartbeats 2000000
namespace DL
open PySem PySem.Spec PyProof.Rows L2
/-! ### the program's sums -/
def dK (ks : List (List Int)) : List (D × D) := ks.map fun s => (T s, .bl true)
def insK (ks : List (List Int)) (s : List Int) : List (List Int) := if s ∈ ks then ks else ks ++ [s]
theorem key_eq {a s : List Int} : ((T a).key = some (keyT s)) ↔ a = s := by
  rw [key_T]
  exact ⟨fun h => keyT_inj (Option.some.inj h), fun h => by rw [h]⟩
theorem kget_dK {s : List Int} : ∀ ks : List (List Int), (kget (dK ks) (keyT s)).isSome = decide (s ∈ ks)
  | [] => rfl
  | a :: ks => by
    show (if (T a).key = some (keyT s) then some (D.bl true) else kget (dK ks) (keyT s)).isSome = _
    by_cases h : a = s
    · rw [if_pos (key_eq.mpr h)]
      have hm : s ∈ a :: ks := by rw [h]; exact List.mem_cons_self
      rw [decide_eq_true hm]
      rfl
    · rw [if_neg fun z => h (key_eq.mp z), kget_dK ks]
      congr 1
      rw [List.mem_cons]
      exact propext ⟨.inr, fun z => z.elim (fun z => absurd z.symm h) id⟩
theorem kput_dK {s : List Int} {ks : List (List Int)} : kput (dK ks) (keyT s) (T s) (.bl true) = dK (insK ks s) := by
  unfold kput insK
  rw [kget_dK]
  by_cases h : s ∈ ks
  · rw [if_pos (decide_eq_true h), if_pos h]
    have e : ∀ p ∈ dK ks, (if p.1.key = some (keyT s) then (p.1, D.bl true) else p) = p := fun p hp => by
      obtain ⟨a, _, rfl⟩ := List.mem_map.mp hp
      dsimp only
      split <;> rfl
    rw [List.map_congr_left e, List.map_id']
  · rw [if_neg (by rw [decide_eq_false h]; simp), if_neg h]
    unfold dK
    rw [List.map_append]
    rfl
theorem insK_mem {ks : List (List Int)} {s z : List Int} : z ∈ insK ks s ↔ z ∈ ks ∨ z = s := by
  unfold insK
  split
  · rename_i h
    exact ⟨.inl, fun q => q.elim id fun e => by rw [e]; exact h⟩
  · rw [List.mem_append, List.mem_singleton]
theorem insK_nodup {ks : List (List Int)} {s : List Int} (h : ks.Nodup) : (insK ks s).Nodup := by
  unfold insK
  split
  · exact h
  · rename_i hn
    rw [List.nodup_append]
    refine ⟨h, by simp, fun a ha b hb e => ?_⟩
    rw [List.mem_singleton.mp hb] at e
    exact hn (e ▸ ha)
theorem fold_mem {ws s z : List Int} : ∀ (l ks : List (List Int)), z ∈ l.foldl (fun k o => insK k (pAdd ws o s)) ks ↔ z ∈ ks ∨ ∃ o ∈ l, z = pAdd ws o s
  | [], ks => by simp
  | o :: l, ks => by
    rw [List.foldl_cons, fold_mem l, insK_mem]
    constructor
    · rintro ((h | h) | ⟨o', h, e⟩)
      · exact .inl h
      · exact .inr ⟨o, List.mem_cons_self, h⟩
      · exact .inr ⟨o', List.mem_cons_of_mem _ h, e⟩
    · rintro (h | ⟨o', h, e⟩)
      · exact .inl (.inl h)
      · rcases List.mem_cons.mp h with q | q
        · exact .inl (.inr (by rw [e, q]))
        · exact .inr ⟨o', q, e⟩
theorem fold_nodup {ws s : List Int} : ∀ (l ks : List (List Int)), ks.Nodup → (l.foldl (fun k o => insK k (pAdd ws o s)) ks).Nodup
  | [], _, h => h
  | o :: l, ks, h => fold_nodup l _ (insK_nodup h)
def nextK (ws : List Int) (ks : List (List Int)) (s : List Int) : List (List Int) := ks.foldl (fun k o => insK k (pAdd ws o s)) (insK ks s)
def pKeys (ws : List Int) (row : List (List Int)) : List (List Int) := row.foldl (nextK ws) []
theorem pKeys_snoc {ws : List Int} {row : List (List Int)} {s : List Int} : pKeys ws (row ++ [s]) = nextK ws (pKeys ws row) s := by unfold pKeys; rw [List.foldl_append]; rfl
theorem nextK_mem {ws s z : List Int} {ks : List (List Int)} : z ∈ nextK ws ks s ↔ z ∈ ks ∨ z = s ∨ ∃ o ∈ ks, z = pAdd ws o s := by
  unfold nextK
  rw [fold_mem, insK_mem, or_assoc]
theorem keys_sums {ws : List Int} (h : ∀ w ∈ ws, 0 < w) : ∀ (row : List (List Int)) (f g : List (List Int)), (∀ s ∈ row, St ws s) → (∀ o ∈ f, St ws o) → g.Nodup → (∀ z, z ∈ g ↔ z ∈ f) → (row.foldl (nextK ws) g).Nodup ∧ ∀ z, z ∈ row.foldl (nextK ws) g ↔ z ∈ row.foldl (nextS ws) f
  | [], f, g, _, _, hn, hm => ⟨hn, hm⟩
  | s :: row, f, g, hr, hf, hn, hm => by
    have hs := hr s List.mem_cons_self
    refine keys_sums h row (nextS ws f s) (nextK ws g s) (fun u hu => hr u (List.mem_cons_of_mem _ hu)) (nextS_ok h hf hs).1 (fold_nodup _ _ (insK_nodup hn)) fun z => ?_
    rw [nextK_mem, nextS_mem h hf hs, hm]
    constructor
    · rintro (q | q | ⟨o, q, e⟩)
      · exact .inl q
      · exact .inr (.inl q)
      · exact .inr (.inr ⟨o, (hm o).mp q, e⟩)
    · rintro (q | q | ⟨o, q, e⟩)
      · exact .inl q
      · exact .inr (.inl q)
      · exact .inr (.inr ⟨o, (hm o).mpr q, e⟩)
/-- rows that ascend strictly, of the same members -/
theorem asc_unique {l m : List (List Int)} (hl : l.Pairwise fun a c => lexB a c = true) (hm : m.Pairwise fun a c => lexB a c = true) (h : ∀ z, z ∈ l ↔ z ∈ m) : l = m :=
  List.Perm.eq_of_pairwise (le := fun a c => lexB a c = true) (fun a c _ _ h1 h2 => by
    have := lexB_trans h1 h2
    rw [lexB_irr] at this
    cases this) hl hm ((List.perm_ext_iff_of_nodup (asc_nodup hl) (asc_nodup hm)).mpr h)
theorem insD_T {d : Nat} {x : List Int} : ∀ {l : List (List Int)}, x.length = d → (∀ y ∈ l, y.length = d) → x ∉ l → insD (T x) (l.map T) = (insC x l).map T
  | [], _, _, _ => rfl
  | y :: ys, hx, hl, hn => by
    have hy := hl y List.mem_cons_self
    have ih := insD_T hx (fun u hu => hl u (List.mem_cons_of_mem _ hu)) fun z => hn (List.mem_cons_of_mem _ z)
    rw [List.map_cons, insD, insC, dLtB_T (hy.trans hx.symm)]
    cases h1 : lexB x y with
    | true =>
      have h2 : lexB y x = false := Bool.eq_false_iff.mpr fun z => by
        have := lexB_trans h1 z
        rw [lexB_irr] at this
        cases this
      rw [h2, if_neg (by simp)]
      rfl
    | false =>
      cases h2 : lexB y x with
      | true =>
        rw [if_pos rfl, ih]
        rfl
      | false => exact absurd (by rw [lexB_tri (hx.trans hy.symm) h1 h2]; exact List.mem_cons_self) hn
theorem isortD_T {d : Nat} : ∀ {ks : List (List Int)}, (∀ y ∈ ks, y.length = d) → ks.Nodup → isortD (ks.map T) = (sset ks).map T
  | [], _, _ => rfl
  | x :: ks, hl, hn => by
    obtain ⟨h1, h2⟩ := List.nodup_cons.mp hn
    have hl' : ∀ y ∈ ks, y.length = d := fun u hu => hl u (List.mem_cons_of_mem _ hu)
    rw [List.map_cons, isortD, isortD_T hl' h2]
    exact insD_T (hl x List.mem_cons_self) (sset_mem (z := []) hl').2 fun z => h1 ((sset_mem hl').1.mp z)
theorem pwD_T {d : Nat} : ∀ {l : List (List Int)}, (∀ y ∈ l, y.length = d) → l.Pairwise (fun a c => lexB a c = true) → pwD (l.map T) = true
  | [], _, _ => rfl
  | x :: l, hl, hp => by
    obtain ⟨h1, h2⟩ := List.pairwise_cons.mp hp
    have hl' : ∀ y ∈ l, y.length = d := fun u hu => hl u (List.mem_cons_of_mem _ hu)
    rw [List.map_cons, pwD, pwD_T hl' h2, Bool.and_true, List.all_eq_true]
    intro y hy
    obtain ⟨u, hu, rfl⟩ := List.mem_map.mp hy
    rw [dLtB_T ((hl x List.mem_cons_self).trans (hl' u hu).symm), h1 u hu]
    rfl
theorem srtable_T {d : Nat} {l : List (List Int)} (hl : ∀ y ∈ l, y.length = d) (hd : 0 < d) : srtable (l.map T) = true := by
  unfold srtable
  rw [Bool.and_eq_true, Bool.and_eq_true, Bool.or_eq_true]
  refine ⟨⟨List.all_eq_true.mpr fun x hx => ?_, List.all_eq_true.mpr fun x hx => List.all_eq_true.mpr fun y hy => ?_⟩, .inl (List.all_eq_true.mpr fun x hx => ?_)⟩
  · obtain ⟨u, _, rfl⟩ := List.mem_map.mp hx
    rw [(sh_T u).ok, Bool.true_and, decide_eq_true_eq]
    exact Nat.le_trans (sh_T u).dep (by omega)
  · obtain ⟨u, _, rfl⟩ := List.mem_map.mp hx
    obtain ⟨v, _, rfl⟩ := List.mem_map.mp hy
    show PySem.W.alike (T u).py (T v).py = true
    rw [D.py, D.py, pys_ints, pys_ints, PySem.W.alike]
    exact alikeAll_ints u v
  · obtain ⟨u, hu, rfl⟩ := List.mem_map.mp hx
    have := hl u hu
    cases u with
    | nil => simp at this; omega
    | cons a u => rfl
theorem dSrt_T {d : Nat} {ks : List (List Int)} (hl : ∀ y ∈ ks, y.length = d) (hd : 0 < d) (hn : ks.Nodup) (hz : ks.length ≤ 1000000) : dSrt (ks.map T) = some ((sset ks).map T) := by
  unfold dSrt
  rw [isortD_T hl hn, if_pos ⟨srtable_T hl hd, by rw [List.length_map]; omega, pwD_T (sset_mem (z := []) hl).2 (sset_asc hl)⟩]
/-- the hashes of the steps, all different -/
def hsh (s : List Int) : Option Int := (T s).key.bind hkN
structure HsW (ws : List Int) : Prop where
  some : ∀ s ∈ pSteps ws, (hsh s).isSome = true
  inj : ∀ a ∈ pSteps ws, ∀ c ∈ pSteps ws, hsh a = hsh c → a = c
def hsB (ws : List Int) : Bool := (pSteps ws).all fun a => (hsh a).isSome && (pSteps ws).all fun c => decide (hsh a = hsh c → a = c)
theorem hsW_of {ws : List Int} (h : hsB ws = true) : HsW ws := by
  have h1 := List.all_eq_true.mp h
  refine ⟨fun s hs => (Bool.and_eq_true_iff.mp (h1 s hs)).1, fun a ha c hc e => ?_⟩
  have h2 := List.all_eq_true.mp (Bool.and_eq_true_iff.mp (h1 a ha)).2 c hc
  rw [decide_eq_true_eq] at h2
  exact h2 e
theorem hashOk_dK {ws : List Int} (h : HsW ws) {ks : List (List Int)} (hk : ∀ s ∈ ks, s ∈ pSteps ws) (hn : ks.Nodup) : hashOk (dK ks) = true := by
  unfold hashOk
  rw [Bool.and_eq_true, decide_eq_true_eq, List.all_eq_true]
  refine ⟨fun p hp => ?_, ?_⟩
  · obtain ⟨s, hs, rfl⟩ := List.mem_map.mp hp
    exact h.some s (hk s hs)
  · unfold dK
    rw [List.map_map]
    refine List.pairwise_map.mpr (List.Pairwise.imp_of_mem (fun {a c} ha hc hne e => hne ?_) hn)
    have s1 := h.some a (hk a ha)
    have s2 := h.some c (hk c hc)
    obtain ⟨i, hi⟩ := Option.isSome_iff_exists.mp s1
    obtain ⟨j, hj⟩ := Option.isSome_iff_exists.mp s2
    have e' : (hsh a).getD 0 = (hsh c).getD 0 := e
    rw [hi, hj] at e'
    refine h.inj a (hk a ha) c (hk c hc) ?_
    rw [hi, hj]
    exact congrArg some e'
theorem sums_of_eq {ws : List Int} {row : List (List Int)} (h : OkW ws) (hh : HsW ws) (h1 : ws ≠ []) (hr : ∀ s ∈ row, St ws s) : ∃ ρ, RD.F_sums_of [.d (T ws), .d (rowD row)] = .ok (.lst ((pSums ws row).map T)) ρ := by
  let E : List (List Int) → Option Cell → Option Cell → Option Cell → DEnv := fun ks o3 o4 o5 => [some (.d (T ws)), some (.d (rowD row)), some (.d (.dct (dK ks))), o3, o4, o5]
  -- the inner loop
  have inner : ∀ (ks : List (List Int)) (s : List Int) (o5 : Option Cell), St ws s → (∀ o ∈ ks, St ws o) → ks.Nodup → ∃ o5', gForL (tgN 5) (gPutK 4 (aC (.bl true)) (aCall 3 RD.F_added (aCons (aV 0) (aCons (aV 5) (aCons (aV 3) aNil))))) (ks.map T) (E ks (some (.d (T s))) (some (.k (dK (insK ks s)))) o5) = .nx (E ks (some (.d (T s))) (some (.k (dK (nextK ws ks s)))) o5') := fun ks s o5 hs hk hn => by
    obtain ⟨ρ', e, done, left, e1, e2, o5', rfl⟩ := for_inv (t := tgN 5) (g := gPutK 4 (aC (.bl true)) (aCall 3 RD.F_added (aCons (aV 0) (aCons (aV 5) (aCons (aV 3) aNil)))))
      (fun rest ρ => ∃ done left, ks = done ++ left ∧ rest = left.map T ∧ ∃ o5, ρ = E ks (some (.d (T s))) (some (.k (dK (done.foldl (fun k o => insK k (pAdd ws o s)) (insK ks s))))) o5)
      (ks.map T) (E ks (some (.d (T s))) (some (.k (dK (insK ks s)))) o5) (fun d rest ρ ⟨done, left, e1, e2, o5, e3⟩ => by
        subst e3
        cases left with
        | nil => cases e2
        | cons o left =>
          rw [List.map_cons] at e2
          obtain ⟨rfl, rfl⟩ := List.cons.inj e2
          have ho : St ws o := hk o (by rw [e1]; simp)
          have hlen : (done.foldl (fun k o => insK k (pAdd ws o s)) (insK ks s)).length ≤ 400 := by
            refine Nat.le_trans (nodup_len (m := pSteps ws) (fold_nodup _ _ (insK_nodup hn)) fun x hx => mem_steps ?_) h.few
            rcases (fold_mem _ _).mp hx with q | ⟨o', q, rfl⟩
            · rcases insK_mem.mp q with q | q
              · exact hk x q
              · rw [q]; exact hs
            · exact add_St h.pos' (hk o' (by rw [e1]; exact List.mem_append_left _ q)) hs
          refine ⟨E ks (some (.d (T s))) (some (.k (dK (done.foldl (fun k o => insK k (pAdd ws o s)) (insK ks s))))) (some (.d (T o))), E ks (some (.d (T s))) (some (.k (dK ((done ++ [o]).foldl (fun k o => insK k (pAdd ws o s)) (insK ks s))))) (some (.d (T o))), rfl, st_last ?_, done ++ [o], left, by rw [e1]; simp, rfl, _, rfl⟩
          refine st_putK (kvs := dK (done.foldl (fun k o => insK k (pAdd ws o s)) (insK ks s))) (d := .bl true) (kd := T (pAdd ws o s)) rfl to_C (to_call (to_cons (to_V (d := T ws) rfl) (to_cons (to_V (d := T o) rfl) (to_cons (to_V (d := T s) rfl) to_nil))) rfl (added_eq h.nz (by have := h.len; omega))) (kk_T _) (by unfold dK; rw [List.length_map]; omega) ?_
          rw [kput_dK, List.foldl_append]
          rfl) ⟨[], ks, rfl, rfl, o5, rfl⟩
    have e4 : left = [] := by
      cases left with
      | nil => rfl
      | cons a b => cases e2
    subst e4
    rw [List.append_nil] at e1
    refine ⟨o5', ?_⟩
    rw [e]
    unfold nextK
    rw [← e1]
  obtain ⟨ρ', e, done, left, e1, e2, o3, o4, o5, rfl⟩ := for_inv (t := tgN 3) (g := gSeq (gOwnK 4 (aCopy (aV 2))) (gSeq (gPutK 4 (aC (.bl true)) (aV 3)) (gSeq (gFor (aKeys (aV 2)) (tgN 5) (gPutK 4 (aC (.bl true)) (aCall 3 RD.F_added (aCons (aV 0) (aCons (aV 5) (aCons (aV 3) aNil)))))) (gFrzK 4 (gSet 2 (aV 4))))))
    (fun rest ρ => ∃ done left, row = done ++ left ∧ rest = left.map T ∧ ∃ o3 o4 o5, ρ = E (pKeys ws done) o3 o4 o5)
    (row.map T) (E [] none none none) (fun d rest ρ ⟨done, left, e1, e2, o3, o4, o5, e3⟩ => by
      subst e3
      cases left with
      | nil => cases e2
      | cons s left =>
        rw [List.map_cons] at e2
        obtain ⟨rfl, rfl⟩ := List.cons.inj e2
        have hs : St ws s := hr s (by rw [e1]; simp)
        have hd : ∀ u ∈ done, St ws u := fun u hu => hr u (by rw [e1]; exact List.mem_append_left _ hu)
        obtain ⟨nd, mm⟩ := keys_sums h.pos' done [] [] hd (fun o ho => by cases ho) List.nodup_nil fun z => Iff.rfl
        have hk : ∀ o ∈ pKeys ws done, St ws o := fun o ho => (sums_ok h.pos' hd).1 o ((mm o).mp ho)
        have hlen : (pKeys ws done).length ≤ 400 := Nat.le_trans (nodup_len (m := pSteps ws) nd fun x hx => mem_steps (hk x hx)) h.few
        obtain ⟨o5', e4⟩ := inner (pKeys ws done) s o5 hs hk nd
        refine ⟨E (pKeys ws done) (some (.d (T s))) o4 o5, E (pKeys ws (done ++ [s])) (some (.d (T s))) (some (.d (.dct (dK (nextK ws (pKeys ws done) s))))) o5', rfl, ?_, done ++ [s], left, by rw [e1]; simp, rfl, _, _, _, rfl⟩
        have hcopy : (aCopy (aV 2)) (E (pKeys ws done) (some (.d (T s))) o4 o5) = .ok (dK (pKeys ws done)) (E (pKeys ws done) (some (.d (T s))) o4 o5) := by
          show (if hashOk (dK (pKeys ws done)) = true ∧ (dK (pKeys ws done)).length ≤ 16000000 then _ else _) = _
          rw [if_pos ⟨hashOk_dK hh (fun o ho => mem_steps (hk o ho)) nd, by unfold dK; rw [List.length_map]; omega⟩]
        have hown : gOwnK 4 (aCopy (aV 2)) (E (pKeys ws done) (some (.d (T s))) o4 o5) = .nx (E (pKeys ws done) (some (.d (T s))) (some (.k (dK (pKeys ws done)))) o5) := by
          unfold gOwnK gOf
          rw [hcopy]
          rfl
        refine seq_nx hown ?_
        refine st_putK (kvs := dK (pKeys ws done)) (d := .bl true) (kd := T s) rfl to_C (to_V rfl) (kk_T _) (by unfold dK; rw [List.length_map]; omega) ?_
        rw [kput_dK]
        refine st_for (ρ := E (pKeys ws done) (some (.d (T s))) (some (.k (dK (insK (pKeys ws done) s)))) o5) (ρ1 := E (pKeys ws done) (some (.d (T s))) (some (.k (dK (insK (pKeys ws done) s)))) o5) (ds := (pKeys ws done).map T) (to_bind (to_V (d := .dct (dK (pKeys ws done))) rfl) (to_lift ?_)) e4 ?_
        · show some ((dK (pKeys ws done)).map (·.1)) = _
          unfold dK
          rw [List.map_map]
          rfl
        · rw [pKeys_snoc]
          show gSet 2 (aV 4) (E (pKeys ws done) (some (.d (T s))) (some (.d (.dct (dK (nextK ws (pKeys ws done) s))))) o5') = _
          exact st_last (st_set (ρ1 := E (pKeys ws done) (some (.d (T s))) (some (.d (.dct (dK (nextK ws (pKeys ws done) s))))) o5') (d := .dct (dK (nextK ws (pKeys ws done) s))) (to_V rfl) st_end)) ⟨[], row, rfl, rfl, none, none, none, rfl⟩
  have e4 : left = [] := by
    cases left with
    | nil => rfl
    | cons a b => cases e2
  subst e4
  rw [List.append_nil] at e1
  obtain ⟨nd, mm⟩ := keys_sums h.pos' row [] [] hr (fun o ho => by cases ho) List.nodup_nil fun z => Iff.rfl
  have so := sums_ok h.pos' hr
  have hk : ∀ o ∈ pKeys ws row, St ws o := fun o ho => so.1 o ((mm o).mp ho)
  have hl : ∀ y ∈ pKeys ws row, y.length = ws.length := fun y hy => (hk y hy).1
  have hlen : (pKeys ws row).length ≤ 400 := Nat.le_trans (nodup_len (m := pSteps ws) nd fun x hx => mem_steps (hk x hx)) h.few
  have es : sset (pKeys ws row) = pSums ws row := asc_unique (sset_asc hl) so.2 fun z => (sset_mem hl).1.trans (mm z)
  unfold RD.F_sums_of RD.g_sums_of
  refine ⟨E (pKeys ws done) o3 o4 o5, fn_ok (ρ := [some (.d (T ws)), some (.d (rowD row)), none, none, none, none]) rfl ?_⟩
  refine st_set (ρ1 := [some (.d (T ws)), some (.d (rowD row)), none, none, none, none]) (d := .dct []) rfl ?_
  refine st_for (ρ1 := E [] none none none) (to_bind (to_V (d := rowD row) rfl) (to_lift rfl)) e ?_
  rw [← e1]
  refine st_last (st_ret (to_bind (x := (pSums ws row).map T) (to_bind (x := .dct (dK (pKeys ws row))) (to_V rfl) (to_lift ?_)) rfl))
  show some ((dK (pKeys ws row)).map (·.1)) >>= dSrt = _
  have e6 : (dK (pKeys ws row)).map (·.1) = (pKeys ws row).map T := by unfold dK; rw [List.map_map]; rfl
  rw [e6]
  show dSrt ((pKeys ws row).map T) = _
  rw [dSrt_T hl (List.length_pos_iff.mpr h1) nd (by omega), es]
theorem stays_eq {ws : List Int} {row : List (List Int)} (h : OkW ws) (hh : HsW ws) (h1 : ws ≠ []) (hr : ∀ s ∈ row, St ws s) : ∃ ρ, RD.F_stays_out [.d (T ws), .d (rowD row)] = .ok (.bl (decide (pHome ws ∉ pSums ws row))) ρ := by
  obtain ⟨ρ, e⟩ := sums_of_eq h hh h1 hr
  unfold RD.F_stays_out RD.g_stays_out
  refine ⟨[some (.d (T ws)), some (.d (rowD row))], fn_ok (ρ := [some (.d (T ws)), some (.d (rowD row))]) rfl (st_last (st_ret (to_2 (x := T (pHome ws)) (to_call (to_cons (to_V (d := T ws) rfl) to_nil) rfl (home_eq (by have := h.len; omega))) (to_call (to_cons (to_V (d := T ws) rfl) (to_cons (to_V (d := rowD row) rfl) to_nil)) rfl e) ?_)))⟩
  unfold dIn
  rw [if_pos (by rw [(sh_T _).sh (by omega), (sh_lst (n := 1) sh_TT).sh (by omega)]; rfl)]
  show some (D.bl (!((D.pys ((pSums ws row).map T)).any fun z => PyData.eqv z (T (pHome ws)).py))) = _
  have any : ∀ l : List (List Int), ((D.pys (l.map T)).any fun z => PyData.eqv z (T (pHome ws)).py) = decide (pHome ws ∈ l) := fun l => by
    rw [pys_TT, List.any_map]
    rw [Bool.eq_iff_iff, List.any_eq_true, decide_eq_true_eq]
    constructor
    · rintro ⟨y, hy, e⟩
      have e2 : PyData.eqv (T y).py (T (pHome ws)).py = true := e
      rw [eqv_T, decide_eq_true_eq] at e2
      rw [← e2]
      exact hy
    · intro hm
      refine ⟨_, hm, ?_⟩
      show PyData.eqv (T (pHome ws)).py (T (pHome ws)).py = true
      rw [eqv_T]
      simp
  rw [any]
  simp
theorem never_eq {ws : List Int} {row : List (List Int)} (h : OkW ws) (hh : HsW ws) (h1 : ws ≠ []) (hr : ∀ s ∈ row, St ws s) (hl : row.length ≤ 40) : ∃ ρ, RD.F_never_home [.d (T ws), .d (rowD row)] = .ok (.bl (decide (pHome ws ∉ pSums ws row))) ρ := by
  obtain ⟨ρ1, e1⟩ := h.need
  obtain ⟨ρ2, e2⟩ := need_row_eq hr hl
  obtain ⟨ρ, e⟩ := stays_eq h hh h1 hr
  unfold RD.F_never_home RD.g_never_home
  refine ⟨[some (.d (T ws)), some (.d (rowD row))], fn_ok (ρ := [some (.d (T ws)), some (.d (rowD row))]) rfl ?_⟩
  exact st_drop (to_call (to_cons (to_V (d := T ws) rfl) to_nil) rfl e1) (st_drop (to_call (to_cons (to_V (d := T ws) rfl) (to_cons (to_V (d := rowD row) rfl) to_nil)) rfl e2) (st_last (st_ret (to_call (to_cons (to_V (d := T ws) rfl) (to_cons (to_V (d := rowD row) rfl) to_nil)) rfl e))))
theorem sums_eq {ws : List Int} {row : List (List Int)} (h : OkW ws) (hh : HsW ws) (h1 : ws ≠ []) (hr : ∀ s ∈ row, St ws s) (hl : row.length ≤ 40) : ∃ ρ, RD.F_sums [.d (T ws), .d (rowD row)] = .ok (rowD (pSums ws row)) ρ := by
  obtain ⟨ρ1, e1⟩ := h.need
  obtain ⟨ρ2, e2⟩ := need_row_eq hr hl
  obtain ⟨ρ, e⟩ := sums_of_eq h hh h1 hr
  unfold RD.F_sums RD.g_sums
  refine ⟨[some (.d (T ws)), some (.d (rowD row))], fn_ok (ρ := [some (.d (T ws)), some (.d (rowD row))]) rfl ?_⟩
  exact st_drop (to_call (to_cons (to_V (d := T ws) rfl) to_nil) rfl e1) (st_drop (to_call (to_cons (to_V (d := T ws) rfl) (to_cons (to_V (d := rowD row) rfl) to_nil)) rfl e2) (st_last (st_ret (to_N (to_cons (to_call (to_cons (to_V (d := T ws) rfl) (to_cons (to_V (d := rowD row) rfl) to_nil)) rfl e) to_nil) rfl))))
theorem menu_hs : menu.all hsB = true := by decide +kernel
theorem menu_hsW {ws : List Int} (h : ws ∈ menu) : HsW ws := hsW_of (List.all_eq_true.mp menu_hs ws h)
end DL
end
section
set_option Elab.async false
set_option linter.all false
set_option maxRecDepth 100000
set_option maxHeartbeats 2000000
namespace DL
open PySem PySem.Spec PyProof.Rows L2
/-! ### the order of a row is nothing to its sums -/
theorem pAdd_comm : ∀ ws a c : List Int, pAdd ws a c = pAdd ws c a
  | [], a, c => by cases a <;> cases c <;> rfl
  | w :: ws, [], [] => rfl
  | w :: ws, [], _ :: _ => rfl
  | w :: ws, _ :: _, [] => rfl
  | w :: ws, x :: a, y :: c => by
    show (x + y).fmod w :: pAdd ws a c = (y + x).fmod w :: pAdd ws c a
    rw [pAdd_comm ws a c, Int.add_comm]
theorem pAdd_right : ∀ {ws : List Int} (o x y : List Int), (∀ w ∈ ws, 0 < w) → pAdd ws (pAdd ws o x) y = pAdd ws (pAdd ws o y) x
  | [], o, x, y, _ => by cases o <;> cases x <;> cases y <;> rfl
  | w :: ws, [], x, y, _ => by cases x <;> cases y <;> rfl
  | w :: ws, _ :: _, [], [], _ => rfl
  | w :: ws, _ :: _, [], _ :: _, _ => rfl
  | w :: ws, _ :: _, _ :: _, [], _ => rfl
  | w :: ws, a :: o, b :: x, c :: y, h => by
    have hw := h w List.mem_cons_self
    show ((a + b).fmod w + c).fmod w :: pAdd ws (pAdd ws o x) y = ((a + c).fmod w + b).fmod w :: pAdd ws (pAdd ws o y) x
    rw [pAdd_right o x y fun u hu => h u (List.mem_cons_of_mem _ hu), fmod_pos hw, fmod_pos hw, fmod_pos hw, fmod_pos hw, Int.emod_add_emod, Int.emod_add_emod, Int.add_right_comm]
theorem fold_congr {ws : List Int} (h : ∀ w ∈ ws, 0 < w) : ∀ (row f g : List (List Int)), (∀ s ∈ row, St ws s) → (∀ o ∈ f, St ws o) → (∀ z, z ∈ f ↔ z ∈ g) → ∀ z, z ∈ row.foldl (nextS ws) f ↔ z ∈ row.foldl (nextS ws) g
  | [], _, _, _, _, hm => hm
  | s :: row, f, g, hr, hf, hm => by
    have hs := hr s List.mem_cons_self
    have hg : ∀ o ∈ g, St ws o := fun o ho => hf o ((hm o).mpr ho)
    refine fold_congr h row _ _ (fun u hu => hr u (List.mem_cons_of_mem _ hu)) (nextS_ok h hf hs).1 fun z => ?_
    rw [nextS_mem h hf hs, nextS_mem h hg hs, hm]
    constructor
    · rintro (q | q | ⟨o, q, e⟩)
      · exact .inl q
      · exact .inr (.inl q)
      · exact .inr (.inr ⟨o, (hm o).mp q, e⟩)
    · rintro (q | q | ⟨o, q, e⟩)
      · exact .inl q
      · exact .inr (.inl q)
      · exact .inr (.inr ⟨o, (hm o).mpr q, e⟩)
theorem next_swap {ws x y : List Int} {f : List (List Int)} (h : ∀ w ∈ ws, 0 < w) (hf : ∀ o ∈ f, St ws o) (hx : St ws x) (hy : St ws y) {z : List Int} (hz : z ∈ nextS ws (nextS ws f x) y) : z ∈ nextS ws (nextS ws f y) x := by
  have kx := (nextS_ok h hf hx).1
  have ky := (nextS_ok h hf hy).1
  rcases (nextS_mem h kx hy).mp hz with q | q | ⟨o, q, e⟩
  · rcases (nextS_mem h hf hx).mp q with q | q | ⟨o, q, e⟩
    · exact (nextS_mem h ky hx).mpr (.inl ((nextS_mem h hf hy).mpr (.inl q)))
    · exact (nextS_mem h ky hx).mpr (.inr (.inl q))
    · exact (nextS_mem h ky hx).mpr (.inr (.inr ⟨o, (nextS_mem h hf hy).mpr (.inl q), e⟩))
  · exact (nextS_mem h ky hx).mpr (.inl ((nextS_mem h hf hy).mpr (.inr (.inl q))))
  · rcases (nextS_mem h hf hx).mp q with q | q | ⟨o', q, e2⟩
    · exact (nextS_mem h ky hx).mpr (.inl ((nextS_mem h hf hy).mpr (.inr (.inr ⟨o, q, e⟩))))
    · refine (nextS_mem h ky hx).mpr (.inr (.inr ⟨y, (nextS_mem h hf hy).mpr (.inr (.inl rfl)), ?_⟩))
      rw [e, q, pAdd_comm]
    · refine (nextS_mem h ky hx).mpr (.inr (.inr ⟨pAdd ws o' y, (nextS_mem h hf hy).mpr (.inr (.inr ⟨o', q, rfl⟩)), ?_⟩))
      rw [e, e2, pAdd_right o' x y h]
theorem fold_perm {ws : List Int} (h : ∀ w ∈ ws, 0 < w) {row row' : List (List Int)} (p : row.Perm row') : ∀ f : List (List Int), (∀ s ∈ row, St ws s) → (∀ o ∈ f, St ws o) → ∀ z, z ∈ row.foldl (nextS ws) f ↔ z ∈ row'.foldl (nextS ws) f := by
  induction p with
  | nil => intro f _ _ z; exact Iff.rfl
  | cons x _ ih => intro f hr hf z; exact ih _ (fun u hu => hr u (List.mem_cons_of_mem _ hu)) (nextS_ok h hf (hr x List.mem_cons_self)).1 z
  | swap x y l =>
    intro f hr hf z
    have hy := hr y List.mem_cons_self
    have hx := hr x (List.mem_cons_of_mem _ List.mem_cons_self)
    exact fold_congr h l _ _ (fun u hu => hr u (List.mem_cons_of_mem _ (List.mem_cons_of_mem _ hu))) (nextS_ok h (nextS_ok h hf hy).1 hx).1 (fun z => ⟨next_swap h hf hy hx, next_swap h hf hx hy⟩) z
  | trans p1 p2 ih1 ih2 => intro f hr hf z; exact (ih1 f hr hf z).trans (ih2 f (fun u hu => hr u (p1.mem_iff.mpr hu)) hf z)
theorem sums_perm {ws : List Int} (h : ∀ w ∈ ws, 0 < w) {row row' : List (List Int)} (p : row.Perm row') (hr : ∀ s ∈ row, St ws s) : pSums ws row = pSums ws row' :=
  asc_unique (sums_ok h hr).2 (sums_ok h fun s hs => hr s (p.mem_iff.mpr hs)).2 (fold_perm h p [] hr fun o ho => by cases ho)
theorem fold_mono {ws : List Int} (h : ∀ w ∈ ws, 0 < w) : ∀ (row f : List (List Int)), (∀ s ∈ row, St ws s) → (∀ o ∈ f, St ws o) → ∀ z ∈ f, z ∈ row.foldl (nextS ws) f
  | [], _, _, _, z, hz => hz
  | s :: row, f, hr, hf, z, hz => by
    have hs := hr s List.mem_cons_self
    exact fold_mono h row _ (fun u hu => hr u (List.mem_cons_of_mem _ hu)) (nextS_ok h hf hs).1 z ((nextS_mem h hf hs).mpr (.inl hz))
theorem sums_app {ws : List Int} (h : ∀ w ∈ ws, 0 < w) {a c : List (List Int)} (ha : ∀ s ∈ a, St ws s) (hc : ∀ s ∈ c, St ws s) {z : List Int} (hz : z ∈ pSums ws a) : z ∈ pSums ws (a ++ c) := by
  unfold pSums at hz ⊢
  rw [List.foldl_append]
  exact fold_mono h c _ hc (sums_ok h ha).1 z hz
theorem sums_one {ws : List Int} (h : ∀ w ∈ ws, 0 < w) : ∀ (row f : List (List Int)), (∀ s ∈ row, St ws s) → (∀ o ∈ f, St ws o) → ∀ s ∈ row, s ∈ row.foldl (nextS ws) f
  | s0 :: row, f, hr, hf, s, hs => by
    have h0 := hr s0 List.mem_cons_self
    have ok := (nextS_ok h hf h0).1
    have hr' : ∀ u ∈ row, St ws u := fun u hu => hr u (List.mem_cons_of_mem _ hu)
    rcases List.mem_cons.mp hs with e | hs
    · rw [e]
      exact fold_mono h row _ hr' ok s0 ((nextS_mem h hf h0).mpr (.inr (.inl rfl)))
    · exact sums_one h row _ hr' ok s hs
/-! ### how many few tellers -/
def numOf (ws g x : List Int) : Nat := match pFind ws g (pK ws g) x with
  | some i => i + 1
  | none => 1000
def totN (ws g : List Int) (row : List (List Int)) : Nat := (row.map (numOf ws g)).sum
def goodG (ws : List Int) (b : Nat) (row : List (List Int)) (g : List Int) : Bool := Nat.ble (totN ws g row) (pK ws g) && Nat.ble (totN ws g row) b
theorem totN_some {ws g : List Int} : ∀ {row : List (List Int)}, (row.all fun x => (pFind ws g (pK ws g) x).isSome) = true → (row.map fun x => (((pFind ws g (pK ws g) x).getD 0 : Nat) : Int) + 1).sum = (totN ws g row : Int)
  | [], _ => rfl
  | x :: row, h => by
    rw [List.all_cons, Bool.and_eq_true] at h
    obtain ⟨i, hi⟩ := Option.isSome_iff_exists.mp h.1
    rw [List.map_cons, List.sum_cons, totN_some h.2]
    have e : totN ws g (x :: row) = numOf ws g x + totN ws g row := by unfold totN; rw [List.map_cons, List.sum_cons]
    have e2 : numOf ws g x = i + 1 := by unfold numOf; rw [hi]
    rw [e, e2, hi]
    show ((i : Nat) : Int) + 1 + _ = _
    push_cast
    rfl
theorem totN_none {ws g : List Int} : ∀ {row : List (List Int)}, (row.all fun x => (pFind ws g (pK ws g) x).isSome) = false → 1000 ≤ totN ws g row
  | [], h => by cases h
  | x :: row, h => by
    have e : totN ws g (x :: row) = numOf ws g x + totN ws g row := by unfold totN; rw [List.map_cons, List.sum_cons]
    rw [List.all_cons, Bool.and_eq_false_iff] at h
    rcases h with h | h
    · have : pFind ws g (pK ws g) x = none := by
        cases hp : pFind ws g (pK ws g) x with
        | none => rfl
        | some i => rw [hp] at h; cases h
      have e2 : numOf ws g x = 1000 := by unfold numOf; rw [this]
      omega
    · have := totN_none h
      omega
theorem tell_good {ws g : List Int} {row : List (List Int)} (hk : pK ws g < 400) (hl : 1 ≤ row.length) : (tellOf ws row g).any (fewB row) = goodG ws (2 * row.length - 2) row g := by
  unfold tellOf pNums goodG
  cases ha : (row.all fun x => (pFind ws g (pK ws g) x).isSome) with
  | false =>
    rw [if_neg (by simp)]
    have := totN_none ha
    have e : Nat.ble (totN ws g row) (pK ws g) = false := by
      rw [← Bool.not_eq_true, Nat.ble_eq]
      omega
    rw [e]
    rfl
  | true =>
    rw [if_pos rfl]
    dsimp only
    rw [totN_some ha]
    by_cases h1 : totN ws g row ≤ pK ws g
    · rw [if_pos (by omega), Nat.ble_eq.mpr h1, Bool.true_and]
      show fewB row (g, _) = _
      unfold fewB
      dsimp only
      rw [totN_some ha, Bool.eq_iff_iff, decide_eq_true_eq, Nat.ble_eq]
      omega
    · rw [if_neg (by omega)]
      have e : Nat.ble (totN ws g row) (pK ws g) = false := by
        rw [← Bool.not_eq_true, Nat.ble_eq]
        omega
      rw [e]
      rfl
theorem few_count {ws : List Int} {row : List (List Int)} (hl : 1 ≤ row.length) : ∀ l : List (List Int), (∀ g ∈ l, pK ws g < 400) → ((l.filterMap (tellOf ws row)).filter (fewB row)).length = (l.filter (goodG ws (2 * row.length - 2) row)).length
  | [], _ => rfl
  | g :: l, h => by
    have ih := few_count hl l fun u hu => h u (List.mem_cons_of_mem _ hu)
    have hg := tell_good (row := row) (h g List.mem_cons_self) hl
    cases ht : tellOf ws row g with
    | none =>
      rw [ht] at hg
      have hg' : goodG ws (2 * row.length - 2) row g = false := hg.symm
      rw [List.filterMap_cons_none ht, List.filter_cons_of_neg (by simp [hg']), ih]
    | some p =>
      rw [ht] at hg
      have hg' : fewB row p = goodG ws (2 * row.length - 2) row g := hg
      rw [List.filterMap_cons_some ht]
      cases hp : fewB row p with
      | true =>
        rw [List.filter_cons_of_pos hp, List.filter_cons_of_pos (by rw [← hg', hp]), List.length_cons, List.length_cons, ih]
      | false =>
        rw [List.filter_cons_of_neg (by simp [hp]), List.filter_cons_of_neg (by rw [← hg', hp]; simp), ih]
theorem totN_perm {ws g : List Int} {row row' : List (List Int)} (p : row.Perm row') : totN ws g row = totN ws g row' := (p.map (numOf ws g)).sum_nat
end DL
end
section
set_option Elab.async false
set_option linter.all false
set_option maxRecDepth 100000
set_option maxHeartbeats 4000000
namespace E2
open PySem PySem.Spec PyProof.Rows L2 DL
/-! ### the tree of the rows that never lead home, sums as bits of a number -/
abbrev Quad := Nat × Nat × Nat × Nat
def R1 (m : Nat) (q : Quad) : Nat := ((m &&& q.1) <<< q.2.1) ||| ((m &&& q.2.2.1) >>> q.2.2.2)
def R (m : Nat) (q : List Quad) : Nat := q.foldl R1 m
structure Mv where
  s : List Int
  bit : Nat
  neg : Nat
  q : List Quad
  nm : List Nat
def pc : Nat → Nat → Nat
  | 0, _ => 0
  | k + 1, m => m % 2 + pc k (m / 2)
def force (m : Nat) (f : Nat → Bool) : Bool := match m with
  | 0 => f 0
  | k + 1 => f (k + 1)
def vec (n : Nat) (row : List Mv) : List Nat := row.foldl (fun a mv => List.zipWith (· + ·) a mv.nm) (List.replicate n 0)
def cnt (b : Nat) : List Nat → List Nat → Nat
  | a :: as, k :: ks => bif Nat.ble a k && Nat.ble a b then cnt b as ks + 1 else cnt b as ks
  | _, _ => 0
def few1 (n : Nat) (ks : List Nat) (l : Nat) (row : List Mv) : Bool := Nat.beq (cnt (2 * l - 2) (vec n row) ks) 1
def inner (n : Nat) (ks : List Nat) (nx : List Mv → Nat → Nat → List Mv → Bool) : List Mv → Nat → Nat → List Mv → Bool
  | [], _, _, _ => true
  | mv :: rest, m, l, row => inner n ks nx rest m l row && (bif Nat.beq (m &&& mv.neg) 0 then force (m ||| mv.bit ||| R m mv.q) fun m' => (bif Nat.ble (pc n m') (2 * (l + 1) - 2) then few1 n ks (l + 1) (mv :: row) else true) && nx (mv :: rest) m' (l + 1) (mv :: row) else true)
def tree (n : Nat) (ks : List Nat) : Nat → List Mv → Nat → Nat → List Mv → Bool
  | 0 => fun _ _ _ _ => true
  | k + 1 => inner n ks (tree n ks k)
end E2
end
section
set_option Elab.async false
set_option linter.all false
set_option maxRecDepth 100000
set_option maxHeartbeats 2000000
namespace E2
open PySem PySem.Spec PyProof.Rows L2 DL
/-! ### sets of steps as numbers -/
section
variable {L : List (List Int)}
def enc (L f : List (List Int)) : Nat := f.foldr (fun s a => (1 <<< L.idxOf s) ||| a) 0
theorem bit_one (k i : Nat) : (1 <<< k).testBit i = decide (k = i) := by rw [Nat.one_shiftLeft, Nat.testBit_two_pow]
theorem enc_bit {i : Nat} : ∀ f : List (List Int), (enc L f).testBit i = f.any fun s => decide (L.idxOf s = i)
  | [] => by
    show (0 : Nat).testBit i = _
    rw [Nat.zero_testBit]
    rfl
  | s :: f => by
    show ((1 <<< L.idxOf s) ||| enc L f).testBit i = _
    rw [Nat.testBit_or, bit_one, enc_bit f, List.any_cons]
theorem enc_congr {f g : List (List Int)} (h : ∀ z, z ∈ f ↔ z ∈ g) : enc L f = enc L g := Nat.eq_of_testBit_eq fun i => by
  rw [enc_bit, enc_bit, Bool.eq_iff_iff, List.any_eq_true, List.any_eq_true]
  exact ⟨fun ⟨x, hx, e⟩ => ⟨x, (h x).mp hx, e⟩, fun ⟨x, hx, e⟩ => ⟨x, (h x).mpr hx, e⟩⟩
theorem enc_app : ∀ f g : List (List Int), enc L (f ++ g) = enc L f ||| enc L g := fun f g => Nat.eq_of_testBit_eq fun i => by
  rw [Nat.testBit_or, enc_bit, enc_bit, enc_bit, List.any_append]
theorem R1_or (q : Quad) (a c : Nat) : R1 (a ||| c) q = R1 a q ||| R1 c q := Nat.eq_of_testBit_eq fun i => by
  unfold R1
  simp only [Nat.testBit_or, Nat.testBit_shiftLeft, Nat.testBit_shiftRight, Nat.testBit_and]
  cases decide (q.2.1 ≤ i) <;> cases a.testBit (i - q.2.1) <;> cases c.testBit (i - q.2.1) <;> cases q.1.testBit (i - q.2.1) <;> cases a.testBit (q.2.2.2 + i) <;> cases c.testBit (q.2.2.2 + i) <;> cases q.2.2.1.testBit (q.2.2.2 + i) <;> simp_all
theorem R1_zero (q : Quad) : R1 0 q = 0 := by
  unfold R1
  simp
theorem R_or : ∀ (q : List Quad) (a c : Nat), R (a ||| c) q = R a q ||| R c q
  | [], _, _ => rfl
  | q :: qs, a, c => by
    show R (R1 (a ||| c) q) qs = R (R1 a q) qs ||| R (R1 c q) qs
    rw [R1_or, R_or qs]
theorem R_zero : ∀ q : List Quad, R 0 q = 0
  | [] => rfl
  | q :: qs => by
    show R (R1 0 q) qs = 0
    rw [R1_zero, R_zero qs]
theorem idx_inj {s o : List Int} (hs : s ∈ L) (ho : o ∈ L) (h : L.idxOf s = L.idxOf o) : s = o := by
  have h1 := List.idxOf_lt_length_of_mem hs
  have h2 := List.idxOf_lt_length_of_mem ho
  have e1 := List.getElem_idxOf h1
  have e2 := List.getElem_idxOf h2
  rw [← e1, ← e2]
  congr 1
theorem pc_eq : ∀ n m : Nat, pc n m = ((List.range n).filter fun i => m.testBit i).length
  | 0, _ => rfl
  | n + 1, m => by
    rw [List.range_succ_eq_map]
    unfold pc
    have e : ((List.range n).map Nat.succ).filter (fun i => m.testBit i) = ((List.range n).filter fun i => (m / 2).testBit i).map Nat.succ := by
      rw [List.filter_map]
      congr 1
      refine List.filter_congr fun i _ => ?_
      show m.testBit (i + 1) = _
      rw [Nat.testBit_add_one]
    rw [pc_eq n (m / 2)]
    by_cases h : m % 2 = 1
    · rw [List.filter_cons_of_pos (by rw [Nat.testBit_zero, decide_eq_true h]), e, List.length_cons, List.length_map]
      omega
    · rw [List.filter_cons_of_neg (by rw [Nat.testBit_zero, decide_eq_false h]; simp), e, List.length_map]
      omega
theorem pc_le {n : Nat} (f : List (List Int)) : pc n (enc L f) ≤ f.length := by
  rw [pc_eq]
  have : ((List.range n).filter fun i => (enc L f).testBit i).length ≤ (f.map L.idxOf).length := nodup_len (List.Nodup.sublist List.filter_sublist List.nodup_range) fun i hi => by
    have h := (List.mem_filter.mp hi).2
    rw [enc_bit, List.any_eq_true] at h
    obtain ⟨s, hs, e⟩ := h
    exact List.mem_map.mpr ⟨s, hs, of_decide_eq_true e⟩
  rw [List.length_map] at this
  exact this
theorem force_eq (m : Nat) (f : Nat → Bool) : force m f = f m := by cases m <;> rfl
end
/-! ### the moves -/
structure OkMv (ws : List Int) (mv : Mv) : Prop where
  st : mv.s ∈ pSteps ws
  bit : mv.bit = 1 <<< (pSteps ws).idxOf mv.s
  neg : ∃ ns ∈ pSteps ws, mv.neg = 1 <<< (pSteps ws).idxOf ns ∧ pAdd ws ns mv.s = pHome ws
  rot : ∀ o ∈ pSteps ws, R (1 <<< (pSteps ws).idxOf o) mv.q = 1 <<< (pSteps ws).idxOf (pAdd ws o mv.s)
  nm : mv.nm = (pSteps ws).map fun g => numOf ws g mv.s
def okMv (ws : List Int) (mv : Mv) : Bool := (pSteps ws).contains mv.s && (decide (mv.bit = 1 <<< (pSteps ws).idxOf mv.s) && ((pSteps ws).any (fun ns => decide (mv.neg = 1 <<< (pSteps ws).idxOf ns) && decide (pAdd ws ns mv.s = pHome ws)) &&
  ((pSteps ws).all (fun o => decide (R (1 <<< (pSteps ws).idxOf o) mv.q = 1 <<< (pSteps ws).idxOf (pAdd ws o mv.s))) && decide (mv.nm = (pSteps ws).map fun g => numOf ws g mv.s))))
theorem okMv_of {ws : List Int} {mv : Mv} (h : okMv ws mv = true) : OkMv ws mv := by
  unfold okMv at h
  simp only [Bool.and_eq_true, decide_eq_true_eq, List.any_eq_true, List.all_eq_true] at h
  obtain ⟨h1, h2, ⟨ns, h3, h4, h5⟩, h6, h7⟩ := h
  exact ⟨List.contains_iff_mem.mp h1, h2, ⟨ns, h3, h4, h5⟩, h6, h7⟩
structure OkT (ws : List Int) (n : Nat) (ks : List Nat) (mvs : List Mv) : Prop where
  n : n = (pSteps ws).length
  ks : ks = (pSteps ws).map (pK ws)
  s : mvs.map (·.s) = pSteps ws
  mv : ∀ mv ∈ mvs, OkMv ws mv
  hd : (pSteps ws).head? = some (pHome ws)
def okT (ws : List Int) (n : Nat) (ks : List Nat) (mvs : List Mv) : Bool := decide (n = (pSteps ws).length) && (decide (ks = (pSteps ws).map (pK ws)) && (decide (mvs.map (·.s) = pSteps ws) && (mvs.all (okMv ws) && decide ((pSteps ws).head? = some (pHome ws)))))
theorem okT_of {ws : List Int} {n : Nat} {ks : List Nat} {mvs : List Mv} (h : okT ws n ks mvs = true) : OkT ws n ks mvs := by
  unfold okT at h
  simp only [Bool.and_eq_true, decide_eq_true_eq, List.all_eq_true] at h
  obtain ⟨h1, h2, h3, h4, h5⟩ := h
  exact ⟨h1, h2, h3, fun mv hm => okMv_of (h4 mv hm), h5⟩
section
variable {ws : List Int}
theorem R_enc {mv : Mv} (h : OkMv ws mv) : ∀ f : List (List Int), (∀ o ∈ f, o ∈ pSteps ws) → R (enc (pSteps ws) f) mv.q = enc (pSteps ws) (f.map fun o => pAdd ws o mv.s)
  | [], _ => R_zero _
  | o :: f, hf => by
    show R ((1 <<< (pSteps ws).idxOf o) ||| enc (pSteps ws) f) mv.q = (1 <<< (pSteps ws).idxOf (pAdd ws o mv.s)) ||| enc (pSteps ws) (f.map fun o => pAdd ws o mv.s)
    rw [R_or, h.rot o (hf o List.mem_cons_self), R_enc h f fun u hu => hf u (List.mem_cons_of_mem _ hu)]
theorem enc_next {mv : Mv} (hw : OkW ws) (h : OkMv ws mv) {f : List (List Int)} (hf : ∀ o ∈ f, St ws o) : enc (pSteps ws) (nextS ws f mv.s) = enc (pSteps ws) f ||| mv.bit ||| R (enc (pSteps ws) f) mv.q := by
  have hs := hw.st _ h.st
  rw [R_enc h f fun o ho => mem_steps (hf o ho), h.bit]
  have e : enc (pSteps ws) [mv.s] = 1 <<< (pSteps ws).idxOf mv.s := by
    show (1 <<< (pSteps ws).idxOf mv.s) ||| 0 = _
    exact Nat.or_zero _
  rw [← e, ← enc_app, ← enc_app]
  refine enc_congr fun z => ?_
  rw [nextS_mem hw.pos' hf hs, List.mem_append, List.mem_append, List.mem_singleton, List.mem_map, or_assoc]
  constructor
  · rintro (q | q | ⟨o, q, e⟩)
    · exact .inl q
    · exact .inr (.inl q)
    · exact .inr (.inr ⟨o, q, e.symm⟩)
  · rintro (q | q | ⟨o, q, e⟩)
    · exact .inl q
    · exact .inr (.inl q)
    · exact .inr (.inr ⟨o, q, e.symm⟩)
/-- a row that ascends in the list of moves -/
inductive Ch : List Mv → List Mv → Prop
  | nil {ms : List Mv} : Ch ms []
  | here {mv : Mv} {ms ext : List Mv} : Ch (mv :: ms) ext → Ch (mv :: ms) (mv :: ext)
  | skip {mv : Mv} {ms ext : List Mv} : Ch ms ext → Ch (mv :: ms) ext
theorem sortCh : ∀ (ms : List Mv) (row : List (List Int)), (∀ s ∈ row, s ∈ ms.map (·.s)) → ∃ ext, Ch ms ext ∧ (ext.map (·.s)).Perm row ∧ ∀ mv ∈ ext, mv ∈ ms
  | [], row, h => by
    have : row = [] := List.eq_nil_iff_forall_not_mem.mpr fun s hs => by
      have := h s hs
      cases this
    rw [this]
    exact ⟨[], .nil, .refl _, fun mv hm => by cases hm⟩
  | mv :: ms, row, h => by
    obtain ⟨ext, h1, h2, h3⟩ := sortCh ms (row.filter fun s => !(s == mv.s)) fun s hs => by
      obtain ⟨a, c⟩ := List.mem_filter.mp hs
      have := h s a
      rw [List.map_cons] at this
      rcases List.mem_cons.mp this with e | e
      · rw [e] at c
        simp at c
      · exact e
    have rep : ∀ c : Nat, Ch (mv :: ms) (List.replicate c mv ++ ext) := fun c => by
      induction c with
      | zero => exact .skip h1
      | succ c ih => exact .here ih
    refine ⟨List.replicate (row.filter fun s => s == mv.s).length mv ++ ext, rep _, ?_, fun m hm => ?_⟩
    · rw [List.map_append, List.map_replicate]
      have e : row.filter (fun s => s == mv.s) = List.replicate (row.filter fun s => s == mv.s).length mv.s := List.eq_replicate_iff.mpr ⟨rfl, fun s hs => by
        have := (List.mem_filter.mp hs).2
        exact beq_iff_eq.mp this⟩
      rw [← e]
      exact (List.Perm.append_left _ h2).trans (List.filter_append_perm (fun s => s == mv.s) row)
    · rcases List.mem_append.mp hm with q | q
      · rw [(List.mem_replicate.mp q).2]
        exact List.mem_cons_self
      · exact List.mem_cons_of_mem _ (h3 m q)
abbrev rs (l : List Mv) : List (List Int) := l.map (·.s)
theorem tree_sound {n : Nat} {ks : List Nat} (hw : OkW ws) : ∀ (k : Nat) (ms ext row : List Mv), Ch ms ext → (∀ mv ∈ ms, OkMv ws mv) → (∀ mv ∈ row, OkMv ws mv) → ext.length ≤ k → ext ≠ [] → tree n ks k ms (enc (pSteps ws) (pSums ws (rs row.reverse))) row.length row = true →
    pHome ws ∉ pSums ws (rs row.reverse ++ rs ext) → (pSums ws (rs row.reverse ++ rs ext)).length ≤ 2 * (row.length + ext.length) - 2 → few1 n ks (row.length + ext.length) (ext.reverse ++ row) = true := by
  intro k
  induction k with
  | zero =>
    intro ms ext row _ _ _ hk hne
    exact absurd (List.length_eq_zero_iff.mp (Nat.le_zero.mp hk)) hne
  | succ k ih =>
    intro ms ext row ch hms hrow hk hne ht hout hfew
    replace ht : inner n ks (tree n ks k) ms (enc (pSteps ws) (pSums ws (rs row.reverse))) row.length row = true := ht
    induction ch with
    | nil => exact absurd rfl hne
    | skip ch ih2 =>
      unfold inner at ht
      rw [Bool.and_eq_true] at ht
      exact ih2 (fun m hm => hms m (List.mem_cons_of_mem _ hm)) hk hne hout hfew ht.1
    | @here mv ms ext ch _ =>
      unfold inner at ht
      rw [Bool.and_eq_true] at ht
      have ht := ht.2
      have hmv := hms mv List.mem_cons_self
      have hs := hw.st _ hmv.st
      have hr : ∀ s ∈ rs row.reverse, St ws s := fun s hs => by
        obtain ⟨m, hm, rfl⟩ := List.mem_map.mp hs
        exact hw.st _ (hrow m (List.mem_reverse.mp hm)).st
      have hext : ∀ m ∈ ext, OkMv ws m := fun m hm => by
        have key : ∀ {a c : List Mv}, Ch a c → ∀ m ∈ c, m ∈ a := fun {a c} h => by
          induction h with
          | nil => intro m hm; cases hm
          | here _ ih => intro m hm; rcases List.mem_cons.mp hm with e | hm; exact e ▸ List.mem_cons_self; exact ih m hm
          | skip _ ih => intro m hm; exact List.mem_cons_of_mem _ (ih m hm)
        exact hms m (key ch m hm)
      have he : ∀ s ∈ rs ext, St ws s := fun s hs => by
        obtain ⟨m, hm, rfl⟩ := List.mem_map.mp hs
        exact hw.st _ (hext m hm).st
      have so := sums_ok hw.pos' hr
      have e1 : rs row.reverse ++ rs (mv :: ext) = (rs row.reverse ++ [mv.s]) ++ rs ext := by simp [rs]
      have e2 : rs (mv :: row).reverse = rs row.reverse ++ [mv.s] := by simp [rs]
      have hr2 : ∀ s ∈ rs row.reverse ++ [mv.s], St ws s := fun s hs' => by
        rcases List.mem_append.mp hs' with q | q
        · exact hr s q
        · rw [List.mem_singleton.mp q]; exact hs
      have out1 : pHome ws ∉ pSums ws (rs row.reverse ++ [mv.s]) := fun z => hout (by rw [e1]; exact sums_app hw.pos' hr2 he z)
      have hneg : Nat.beq (enc (pSteps ws) (pSums ws (rs row.reverse)) &&& mv.neg) 0 = true := by
        obtain ⟨ns, hns, en, eh⟩ := hmv.neg
        rw [Nat.beq_eq, en]
        refine Nat.eq_of_testBit_eq fun i => ?_
        rw [Nat.testBit_and, bit_one, Nat.zero_testBit, enc_bit, Bool.and_eq_false_iff]
        by_cases hi : (pSteps ws).idxOf ns = i
        · refine .inl (Bool.eq_false_iff.mpr fun h => ?_)
          rw [List.any_eq_true] at h
          obtain ⟨o, ho, eo⟩ := h
          have : o = ns := idx_inj (mem_steps (so.1 o ho)) hns ((of_decide_eq_true eo).trans hi.symm)
          rw [this] at ho
          refine out1 ?_
          rw [pSums_snoc]
          exact (nextS_mem hw.pos' so.1 hs).mpr (.inr (.inr ⟨ns, ho, eh.symm⟩))
        · exact .inr (decide_eq_false hi)
      rw [hneg, cond_true, force_eq, Bool.and_eq_true, ← enc_next hw hmv so.1, ← pSums_snoc] at ht
      have len1 : row.length + (mv :: ext).length = (mv :: row).length + ext.length := by simp; omega
      have app1 : (mv :: ext).reverse ++ row = ext.reverse ++ (mv :: row) := by simp
      rw [len1, app1]
      by_cases hx : ext = []
      · subst hx
        have hf : Nat.ble (pc n (enc (pSteps ws) (pSums ws (rs row.reverse ++ [mv.s])))) (2 * (row.length + 1) - 2) = true := by
          rw [Nat.ble_eq]
          have a1 := pc_le (L := pSteps ws) (n := n) (pSums ws (rs row.reverse ++ [mv.s]))
          rw [e1] at hfew
          have e3 : rs row.reverse ++ [mv.s] ++ rs ([] : List Mv) = rs row.reverse ++ [mv.s] := List.append_nil _
          rw [e3] at hfew
          have a2 : [mv].length = 1 := rfl
          rw [a2] at hfew
          exact Nat.le_trans a1 hfew
        rw [hf, cond_true] at ht
        exact ht.1
      · rw [len1, e1] at hfew
        rw [e1] at hout
        rw [← e2] at hout hfew ht
        have hk' : ext.length ≤ k := by simp at hk; omega
        exact ih (mv :: ms) ext (mv :: row) ch hms (fun m hm => by
          rcases List.mem_cons.mp hm with q | q
          · rw [q]; exact hmv
          · exact hrow m q) hk' hx ht.2 hout hfew
/-! ### few1 counts -/
theorem zip_plus {L : List (List Int)} {a f : List Int → Nat} : List.zipWith (· + ·) (L.map a) (L.map f) = L.map fun g => a g + f g := by
  induction L with
  | nil => rfl
  | cons x L ih => rw [List.map_cons, List.map_cons, List.zipWith_cons_cons, ih, List.map_cons]
theorem vec_eq {L : List (List Int)} {F : Mv → List Int → Nat} : ∀ (ext : List Mv) (a : List Int → Nat), (∀ mv ∈ ext, mv.nm = L.map (F mv)) → ext.foldl (fun a mv => List.zipWith (· + ·) a mv.nm) (L.map a) = L.map fun g => a g + (ext.map fun mv => F mv g).sum
  | [], a, _ => by simp
  | mv :: ext, a, h => by
    rw [List.foldl_cons, h mv List.mem_cons_self, zip_plus, vec_eq ext (fun g => a g + F mv g) fun m hm => h m (List.mem_cons_of_mem _ hm)]
    refine List.map_congr_left fun g _ => ?_
    rw [List.map_cons, List.sum_cons]
    omega
theorem cnt_eq {b : Nat} {A K : List Int → Nat} : ∀ L : List (List Int), cnt b (L.map A) (L.map K) = (L.filter fun g => Nat.ble (A g) (K g) && Nat.ble (A g) b).length
  | [] => rfl
  | g :: L => by
    rw [List.map_cons, List.map_cons, cnt, cnt_eq L]
    cases h : Nat.ble (A g) (K g) && Nat.ble (A g) b with
    | true => rw [List.filter_cons_of_pos (p := fun g => Nat.ble (A g) (K g) && Nat.ble (A g) b) h]; rfl
    | false => rw [List.filter_cons_of_neg (p := fun g => Nat.ble (A g) (K g) && Nat.ble (A g) b) (by rw [h]; simp)]; rfl
theorem few1_eq {n : Nat} {ks : List Nat} {mvs ext : List Mv} (t : OkT ws n ks mvs) (he : ∀ mv ∈ ext, OkMv ws mv) (l : Nat) : few1 n ks l ext = decide (((pSteps ws).filter (goodG ws (2 * l - 2) (rs ext))).length = 1) := by
  unfold few1 vec
  have h0 : List.replicate n 0 = (pSteps ws).map fun _ => 0 := by
    rw [t.n, List.map_const']
  rw [h0, vec_eq (F := fun mv g => numOf ws g mv.s) ext (fun _ => 0) (fun mv hm => (he mv hm).nm), t.ks, cnt_eq]
  have e : (pSteps ws).filter (fun g => Nat.ble (0 + (ext.map fun mv => numOf ws g mv.s).sum) (pK ws g) && Nat.ble (0 + (ext.map fun mv => numOf ws g mv.s).sum) (2 * l - 2)) = (pSteps ws).filter (goodG ws (2 * l - 2) (rs ext)) := List.filter_congr fun g _ => by
    unfold goodG totN rs
    rw [List.map_map, Nat.zero_add]
    rfl
  rw [e, Bool.eq_iff_iff, Nat.beq_eq, decide_eq_true_eq]
/-! ### never home with few sums: told by small numbers, once -/
theorem few_one {n : Nat} {ks : List Nat} {mvs : List Mv} (hw : OkW ws) (t : OkT ws n ks mvs) (ht : tree n ks 10 (mvs.drop 1) 0 0 [] = true) {row : List (List Int)} (hr : ∀ s ∈ row, St ws s) (hl : row.length ≤ 10) (ho : pHome ws ∉ pSums ws row) (hf : ((pSums ws row).length : Int) ≤ 2 * (row.length : Int) - 2) :
    ((pTell ws row).filter (fewB row)).length = 1 := by
  have hl1 : 1 ≤ row.length := by omega
  obtain ⟨ext, ch, pm, hm⟩ := sortCh (mvs.drop 1) row fun s hs => by
    have h1 : s ∈ mvs.map (·.s) := by rw [t.s]; exact mem_steps (hr s hs)
    have h2 : s ≠ pHome ws := fun e => ho (by
      have := sums_one hw.pos' row [] hr (fun o ho => by cases ho) s hs
      rw [e] at this
      exact this)
    obtain ⟨mv, h3, e3⟩ := List.mem_map.mp h1
    have hd := t.hd
    rw [← t.s] at hd
    cases hmv : mvs with
    | nil => rw [hmv] at h3; cases h3
    | cons m0 ms =>
      rw [hmv] at h3 hd
      rw [List.map_cons, List.head?_cons] at hd
      rcases List.mem_cons.mp h3 with q | q
      · exact absurd (e3.symm.trans (by rw [q]; exact Option.some.inj hd)) h2
      · exact List.mem_map.mpr ⟨mv, q, e3⟩
  have hom : ∀ mv ∈ ext, OkMv ws mv := fun mv h => t.mv mv (List.mem_of_mem_drop (hm mv h))
  have hst : ∀ s ∈ rs ext, St ws s := fun s hs => hr s (pm.mem_iff.mp hs)
  have es : pSums ws (rs ext) = pSums ws row := sums_perm hw.pos' pm hst
  have len : ext.length = row.length := by rw [← pm.length_eq, List.length_map]
  have hne : ext ≠ [] := fun e => by rw [e] at len; simp at len; omega
  have main := tree_sound (ws := ws) hw 10 (mvs.drop 1) ext [] ch (fun mv h => t.mv mv (List.mem_of_mem_drop h)) (fun mv h => by cases h) (by omega) hne ht (by
    show pHome ws ∉ pSums ws ([] ++ rs ext)
    rw [List.nil_append, es]
    exact ho) (by
    show (pSums ws ([] ++ rs ext)).length ≤ _
    rw [List.nil_append, es, List.length_nil, Nat.zero_add, len]
    omega)
  rw [List.append_nil, few1_eq t (fun mv h => hom mv (List.mem_reverse.mp h)), decide_eq_true_eq, List.length_nil, Nat.zero_add, len] at main
  unfold pTell
  rw [few_count hl1 (pSteps ws) fun g hg => (hw.ord g hg).1]
  have e : (pSteps ws).filter (goodG ws (2 * row.length - 2) row) = (pSteps ws).filter (goodG ws (2 * row.length - 2) (rs ext.reverse)) := List.filter_congr fun g _ => by
    have p2 : (rs ext.reverse).Perm row := ((List.reverse_perm ext).map (·.s)).trans pm
    unfold goodG
    rw [totN_perm (g := g) p2]
  rw [e]
  exact main
theorem few_due {row : List (List Int)} (hw : OkW ws) (hr : ∀ s ∈ row, St ws s) {p : List Int × List Int} (hp : p ∈ pTell ws row) (hf : fewB row p = true) : pHome ws ∉ pSums ws row ∧ ((pSums ws row).length : Int) ≤ 2 * (row.length : Int) - 2 := by
  refine ⟨told_out hw hp, ?_⟩
  obtain ⟨_, _, hn, hk, _⟩ := tell_parts hp
  have hsum : 0 ≤ p.2.sum := by
    have key : ∀ l : List Int, (∀ n ∈ l, 1 ≤ n) → 0 ≤ l.sum := fun l => by
      induction l with
      | nil => intro _; exact Int.le_refl _
      | cons a l ih =>
        intro h
        have h1 := h a List.mem_cons_self
        have h2 := ih fun n hn => h n (List.mem_cons_of_mem _ hn)
        rw [List.sum_cons]
        omega
    exact key _ hn
  have h1 : (pSums ws row).length ≤ ((List.range p.2.sum.toNat).map fun i => pTimes ws p.1 ((i : Nat) + 1)).length := nodup_len (asc_nodup (sums_ok hw.pos' hr).2) fun z hz => by
    obtain ⟨m, a1, a2, a3⟩ := told_sums hw hp z hz
    refine List.mem_map.mpr ⟨m.toNat - 1, List.mem_range.mpr (by omega), ?_⟩
    rw [a3]
    congr 1
    omega
  rw [List.length_map, List.length_range] at h1
  unfold fewB at hf
  rw [decide_eq_true_eq] at hf
  omega
end
end E2
end
section
set_option Elab.async false
set_option linter.all false
set_option maxRecDepth 100000
set_option maxHeartbeats 4000000
namespace E2
open PySem PySem.Spec PyProof.Rows L2 DL
def ks_2 : List Nat := [0, 1]
def mv_2 : List Mv := [{ s := [0], bit := 1, neg := 1, q := [], nm := [1000, 1000] },
  { s := [1], bit := 2, neg := 2, q := [(1, 1, 2, 1)], nm := [1000, 1] }]
theorem tr_2 : tree 2 ks_2 10 (mv_2.drop 1) 0 0 [] = true := by decide +kernel
def ks_3 : List Nat := [0, 2, 2]
def mv_3 : List Mv := [{ s := [0], bit := 1, neg := 1, q := [], nm := [1000, 1000, 1000] },
  { s := [1], bit := 2, neg := 4, q := [(3, 1, 4, 2)], nm := [1000, 1, 2] },
  { s := [2], bit := 4, neg := 2, q := [(1, 2, 6, 1)], nm := [1000, 2, 1] }]
theorem tr_3 : tree 3 ks_3 10 (mv_3.drop 1) 0 0 [] = true := by decide +kernel
def ks_4 : List Nat := [0, 3, 1, 3]
def mv_4 : List Mv := [{ s := [0], bit := 1, neg := 1, q := [], nm := [1000, 1000, 1000, 1000] },
  { s := [1], bit := 2, neg := 8, q := [(7, 1, 8, 3)], nm := [1000, 1, 1000, 3] },
  { s := [2], bit := 4, neg := 4, q := [(3, 2, 12, 2)], nm := [1000, 2, 1, 2] },
  { s := [3], bit := 8, neg := 2, q := [(1, 3, 14, 1)], nm := [1000, 3, 1000, 1] }]
theorem tr_4 : tree 4 ks_4 10 (mv_4.drop 1) 0 0 [] = true := by decide +kernel
def ks_5 : List Nat := [0, 4, 4, 4, 4]
def mv_5 : List Mv := [{ s := [0], bit := 1, neg := 1, q := [], nm := [1000, 1000, 1000, 1000, 1000] },
  { s := [1], bit := 2, neg := 16, q := [(15, 1, 16, 4)], nm := [1000, 1, 3, 2, 4] },
  { s := [2], bit := 4, neg := 8, q := [(7, 2, 24, 3)], nm := [1000, 2, 1, 4, 3] },
  { s := [3], bit := 8, neg := 4, q := [(3, 3, 28, 2)], nm := [1000, 3, 4, 1, 2] },
  { s := [4], bit := 16, neg := 2, q := [(1, 4, 30, 1)], nm := [1000, 4, 2, 3, 1] }]
theorem tr_5 : tree 5 ks_5 10 (mv_5.drop 1) 0 0 [] = true := by decide +kernel
def ks_6 : List Nat := [0, 5, 2, 1, 2, 5]
def mv_6 : List Mv := [{ s := [0], bit := 1, neg := 1, q := [], nm := [1000, 1000, 1000, 1000, 1000, 1000] },
  { s := [1], bit := 2, neg := 32, q := [(31, 1, 32, 5)], nm := [1000, 1, 1000, 1000, 1000, 5] },
  { s := [2], bit := 4, neg := 16, q := [(15, 2, 48, 4)], nm := [1000, 2, 1, 1000, 2, 4] },
  { s := [3], bit := 8, neg := 8, q := [(7, 3, 56, 3)], nm := [1000, 3, 1000, 1, 1000, 3] },
  { s := [4], bit := 16, neg := 4, q := [(3, 4, 60, 2)], nm := [1000, 4, 2, 1000, 1, 2] },
  { s := [5], bit := 32, neg := 2, q := [(1, 5, 62, 1)], nm := [1000, 5, 1000, 1000, 1000, 1] }]
theorem tr_6 : tree 6 ks_6 10 (mv_6.drop 1) 0 0 [] = true := by decide +kernel
def ks_7 : List Nat := [0, 6, 6, 6, 6, 6, 6]
def mv_7 : List Mv := [{ s := [0], bit := 1, neg := 1, q := [], nm := [1000, 1000, 1000, 1000, 1000, 1000, 1000] },
  { s := [1], bit := 2, neg := 64, q := [(63, 1, 64, 6)], nm := [1000, 1, 4, 5, 2, 3, 6] },
  { s := [2], bit := 4, neg := 32, q := [(31, 2, 96, 5)], nm := [1000, 2, 1, 3, 4, 6, 5] },
  { s := [3], bit := 8, neg := 16, q := [(15, 3, 112, 4)], nm := [1000, 3, 5, 1, 6, 2, 4] },
  { s := [4], bit := 16, neg := 8, q := [(7, 4, 120, 3)], nm := [1000, 4, 2, 6, 1, 5, 3] },
  { s := [5], bit := 32, neg := 4, q := [(3, 5, 124, 2)], nm := [1000, 5, 6, 4, 3, 1, 2] },
  { s := [6], bit := 64, neg := 2, q := [(1, 6, 126, 1)], nm := [1000, 6, 3, 2, 5, 4, 1] }]
theorem tr_7 : tree 7 ks_7 10 (mv_7.drop 1) 0 0 [] = true := by decide +kernel
def ks_8 : List Nat := [0, 7, 3, 7, 1, 7, 3, 7]
def mv_8 : List Mv := [{ s := [0], bit := 1, neg := 1, q := [], nm := [1000, 1000, 1000, 1000, 1000, 1000, 1000, 1000] },
  { s := [1], bit := 2, neg := 128, q := [(127, 1, 128, 7)], nm := [1000, 1, 1000, 3, 1000, 5, 1000, 7] },
  { s := [2], bit := 4, neg := 64, q := [(63, 2, 192, 6)], nm := [1000, 2, 1, 6, 1000, 2, 3, 6] },
  { s := [3], bit := 8, neg := 32, q := [(31, 3, 224, 5)], nm := [1000, 3, 1000, 1, 1000, 7, 1000, 5] },
  { s := [4], bit := 16, neg := 16, q := [(15, 4, 240, 4)], nm := [1000, 4, 2, 4, 1, 4, 2, 4] },
  { s := [5], bit := 32, neg := 8, q := [(7, 5, 248, 3)], nm := [1000, 5, 1000, 7, 1000, 1, 1000, 3] },
  { s := [6], bit := 64, neg := 4, q := [(3, 6, 252, 2)], nm := [1000, 6, 3, 2, 1000, 6, 1, 2] },
  { s := [7], bit := 128, neg := 2, q := [(1, 7, 254, 1)], nm := [1000, 7, 1000, 5, 1000, 3, 1000, 1] }]
theorem tr_8 : tree 8 ks_8 10 (mv_8.drop 1) 0 0 [] = true := by decide +kernel
def ks_9 : List Nat := [0, 8, 8, 2, 8, 8, 2, 8, 8]
def mv_9 : List Mv := [{ s := [0], bit := 1, neg := 1, q := [], nm := [1000, 1000, 1000, 1000, 1000, 1000, 1000, 1000, 1000] },
  { s := [1], bit := 2, neg := 256, q := [(255, 1, 256, 8)], nm := [1000, 1, 5, 1000, 7, 2, 1000, 4, 8] },
  { s := [2], bit := 4, neg := 128, q := [(127, 2, 384, 7)], nm := [1000, 2, 1, 1000, 5, 4, 1000, 8, 7] },
  { s := [3], bit := 8, neg := 64, q := [(63, 3, 448, 6)], nm := [1000, 3, 6, 1, 3, 6, 2, 3, 6] },
  { s := [4], bit := 16, neg := 32, q := [(31, 4, 480, 5)], nm := [1000, 4, 2, 1000, 1, 8, 1000, 7, 5] },
  { s := [5], bit := 32, neg := 16, q := [(15, 5, 496, 4)], nm := [1000, 5, 7, 1000, 8, 1, 1000, 2, 4] },
  { s := [6], bit := 64, neg := 8, q := [(7, 6, 504, 3)], nm := [1000, 6, 3, 2, 6, 3, 1, 6, 3] },
  { s := [7], bit := 128, neg := 4, q := [(3, 7, 508, 2)], nm := [1000, 7, 8, 1000, 4, 5, 1000, 1, 2] },
  { s := [8], bit := 256, neg := 2, q := [(1, 8, 510, 1)], nm := [1000, 8, 4, 1000, 2, 7, 1000, 5, 1] }]
theorem tr_9 : tree 9 ks_9 10 (mv_9.drop 1) 0 0 [] = true := by decide +kernel
def ks_10 : List Nat := [0, 9, 4, 9, 4, 1, 4, 9, 4, 9]
def mv_10 : List Mv := [{ s := [0], bit := 1, neg := 1, q := [], nm := [1000, 1000, 1000, 1000, 1000, 1000, 1000, 1000, 1000, 1000] },
  { s := [1], bit := 2, neg := 512, q := [(511, 1, 512, 9)], nm := [1000, 1, 1000, 7, 1000, 1000, 1000, 3, 1000, 9] },
  { s := [2], bit := 4, neg := 256, q := [(255, 2, 768, 8)], nm := [1000, 2, 1, 4, 3, 1000, 2, 6, 4, 8] },
  { s := [3], bit := 8, neg := 128, q := [(127, 3, 896, 7)], nm := [1000, 3, 1000, 1, 1000, 1000, 1000, 9, 1000, 7] },
  { s := [4], bit := 16, neg := 64, q := [(63, 4, 960, 6)], nm := [1000, 4, 2, 8, 1, 1000, 4, 2, 3, 6] },
  { s := [5], bit := 32, neg := 32, q := [(31, 5, 992, 5)], nm := [1000, 5, 1000, 5, 1000, 1, 1000, 5, 1000, 5] },
  { s := [6], bit := 64, neg := 16, q := [(15, 6, 1008, 4)], nm := [1000, 6, 3, 2, 4, 1000, 1, 8, 2, 4] },
  { s := [7], bit := 128, neg := 8, q := [(7, 7, 1016, 3)], nm := [1000, 7, 1000, 9, 1000, 1000, 1000, 1, 1000, 3] },
  { s := [8], bit := 256, neg := 4, q := [(3, 8, 1020, 2)], nm := [1000, 8, 4, 6, 2, 1000, 3, 4, 1, 2] },
  { s := [9], bit := 512, neg := 2, q := [(1, 9, 1022, 1)], nm := [1000, 9, 1000, 3, 1000, 1000, 1000, 7, 1000, 1] }]
theorem tr_10 : tree 10 ks_10 10 (mv_10.drop 1) 0 0 [] = true := by decide +kernel
def ks_11 : List Nat := [0, 10, 10, 10, 10, 10, 10, 10, 10, 10, 10]
def mv_11 : List Mv := [{ s := [0], bit := 1, neg := 1, q := [], nm := [1000, 1000, 1000, 1000, 1000, 1000, 1000, 1000, 1000, 1000, 1000] },
  { s := [1], bit := 2, neg := 1024, q := [(1023, 1, 1024, 10)], nm := [1000, 1, 6, 4, 3, 9, 2, 8, 7, 5, 10] },
  { s := [2], bit := 4, neg := 512, q := [(511, 2, 1536, 9)], nm := [1000, 2, 1, 8, 6, 7, 4, 5, 3, 10, 9] },
  { s := [3], bit := 8, neg := 256, q := [(255, 3, 1792, 8)], nm := [1000, 3, 7, 1, 9, 5, 6, 2, 10, 4, 8] },
  { s := [4], bit := 16, neg := 128, q := [(127, 4, 1920, 7)], nm := [1000, 4, 2, 5, 1, 3, 8, 10, 6, 9, 7] },
  { s := [5], bit := 32, neg := 64, q := [(63, 5, 1984, 6)], nm := [1000, 5, 8, 9, 4, 1, 10, 7, 2, 3, 6] },
  { s := [6], bit := 64, neg := 32, q := [(31, 6, 2016, 5)], nm := [1000, 6, 3, 2, 7, 10, 1, 4, 9, 8, 5] },
  { s := [7], bit := 128, neg := 16, q := [(15, 7, 2032, 4)], nm := [1000, 7, 9, 6, 10, 8, 3, 1, 5, 2, 4] },
  { s := [8], bit := 256, neg := 8, q := [(7, 8, 2040, 3)], nm := [1000, 8, 4, 10, 2, 6, 5, 9, 1, 7, 3] },
  { s := [9], bit := 512, neg := 4, q := [(3, 9, 2044, 2)], nm := [1000, 9, 10, 3, 5, 4, 7, 6, 8, 1, 2] },
  { s := [10], bit := 1024, neg := 2, q := [(1, 10, 2046, 1)], nm := [1000, 10, 5, 7, 8, 2, 9, 3, 4, 6, 1] }]
theorem tr_11 : tree 11 ks_11 10 (mv_11.drop 1) 0 0 [] = true := by decide +kernel
def ks_12 : List Nat := [0, 11, 5, 3, 2, 11, 1, 11, 2, 3, 5, 11]
def mv_12 : List Mv := [{ s := [0], bit := 1, neg := 1, q := [], nm := [1000, 1000, 1000, 1000, 1000, 1000, 1000, 1000, 1000, 1000, 1000, 1000] },
  { s := [1], bit := 2, neg := 2048, q := [(2047, 1, 2048, 11)], nm := [1000, 1, 1000, 1000, 1000, 5, 1000, 7, 1000, 1000, 1000, 11] },
  { s := [2], bit := 4, neg := 1024, q := [(1023, 2, 3072, 10)], nm := [1000, 2, 1, 1000, 1000, 10, 1000, 2, 1000, 1000, 5, 10] },
  { s := [3], bit := 8, neg := 512, q := [(511, 3, 3584, 9)], nm := [1000, 3, 1000, 1, 1000, 3, 1000, 9, 1000, 3, 1000, 9] },
  { s := [4], bit := 16, neg := 256, q := [(255, 4, 3840, 8)], nm := [1000, 4, 2, 1000, 1, 8, 1000, 4, 2, 1000, 4, 8] },
  { s := [5], bit := 32, neg := 128, q := [(127, 5, 3968, 7)], nm := [1000, 5, 1000, 1000, 1000, 1, 1000, 11, 1000, 1000, 1000, 7] },
  { s := [6], bit := 64, neg := 64, q := [(63, 6, 4032, 6)], nm := [1000, 6, 3, 2, 1000, 6, 1, 6, 1000, 2, 3, 6] },
  { s := [7], bit := 128, neg := 32, q := [(31, 7, 4064, 5)], nm := [1000, 7, 1000, 1000, 1000, 11, 1000, 1, 1000, 1000, 1000, 5] },
  { s := [8], bit := 256, neg := 16, q := [(15, 8, 4080, 4)], nm := [1000, 8, 4, 1000, 2, 4, 1000, 8, 1, 1000, 2, 4] },
  { s := [9], bit := 512, neg := 8, q := [(7, 9, 4088, 3)], nm := [1000, 9, 1000, 3, 1000, 9, 1000, 3, 1000, 1, 1000, 3] },
  { s := [10], bit := 1024, neg := 4, q := [(3, 10, 4092, 2)], nm := [1000, 10, 5, 1000, 1000, 2, 1000, 10, 1000, 1000, 1, 2] },
  { s := [11], bit := 2048, neg := 2, q := [(1, 11, 4094, 1)], nm := [1000, 11, 1000, 1000, 1000, 7, 1000, 5, 1000, 1000, 1000, 1] }]
theorem tr_12 : tree 12 ks_12 10 (mv_12.drop 1) 0 0 [] = true := by decide +kernel
def ks_13 : List Nat := [0, 12, 12, 12, 12, 12, 12, 12, 12, 12, 12, 12, 12]
def mv_13 : List Mv := [{ s := [0], bit := 1, neg := 1, q := [], nm := [1000, 1000, 1000, 1000, 1000, 1000, 1000, 1000, 1000, 1000, 1000, 1000, 1000] },
  { s := [1], bit := 2, neg := 4096, q := [(4095, 1, 4096, 12)], nm := [1000, 1, 7, 9, 10, 8, 11, 2, 5, 3, 4, 6, 12] },
  { s := [2], bit := 4, neg := 2048, q := [(2047, 2, 6144, 11)], nm := [1000, 2, 1, 5, 7, 3, 9, 4, 10, 6, 8, 12, 11] },
  { s := [3], bit := 8, neg := 1024, q := [(1023, 3, 7168, 10)], nm := [1000, 3, 8, 1, 4, 11, 7, 6, 2, 9, 12, 5, 10] },
  { s := [4], bit := 16, neg := 512, q := [(511, 4, 7680, 9)], nm := [1000, 4, 2, 10, 1, 6, 5, 8, 7, 12, 3, 11, 9] },
  { s := [5], bit := 32, neg := 256, q := [(255, 5, 7936, 8)], nm := [1000, 5, 9, 6, 11, 1, 3, 10, 12, 2, 7, 4, 8] },
  { s := [6], bit := 64, neg := 128, q := [(127, 6, 8064, 7)], nm := [1000, 6, 3, 2, 8, 9, 1, 12, 4, 5, 11, 10, 7] },
  { s := [7], bit := 128, neg := 64, q := [(63, 7, 8128, 6)], nm := [1000, 7, 10, 11, 5, 4, 12, 1, 9, 8, 2, 3, 6] },
  { s := [8], bit := 256, neg := 32, q := [(31, 8, 8160, 5)], nm := [1000, 8, 4, 7, 2, 12, 10, 3, 1, 11, 6, 9, 5] },
  { s := [9], bit := 512, neg := 16, q := [(15, 9, 8176, 4)], nm := [1000, 9, 11, 3, 12, 7, 8, 5, 6, 1, 10, 2, 4] },
  { s := [10], bit := 1024, neg := 8, q := [(7, 10, 8184, 3)], nm := [1000, 10, 5, 12, 9, 2, 6, 7, 11, 4, 1, 8, 3] },
  { s := [11], bit := 2048, neg := 4, q := [(3, 11, 8188, 2)], nm := [1000, 11, 12, 8, 6, 10, 4, 9, 3, 7, 5, 1, 2] },
  { s := [12], bit := 4096, neg := 2, q := [(1, 12, 8190, 1)], nm := [1000, 12, 6, 4, 3, 5, 2, 11, 8, 10, 9, 7, 1] }]
theorem tr_13 : tree 13 ks_13 10 (mv_13.drop 1) 0 0 [] = true := by decide +kernel
def ks_2_2 : List Nat := [0, 1, 1, 1]
def mv_2_2 : List Mv := [{ s := [0, 0], bit := 1, neg := 1, q := [], nm := [1000, 1000, 1000, 1000] },
  { s := [0, 1], bit := 2, neg := 2, q := [(5, 1, 10, 1)], nm := [1000, 1, 1000, 1000] },
  { s := [1, 0], bit := 4, neg := 4, q := [(3, 2, 12, 2)], nm := [1000, 1000, 1, 1000] },
  { s := [1, 1], bit := 8, neg := 8, q := [(3, 2, 12, 2), (5, 1, 10, 1)], nm := [1000, 1000, 1000, 1] }]
theorem tr_2_2 : tree 4 ks_2_2 10 (mv_2_2.drop 1) 0 0 [] = true := by decide +kernel
def ks_2_4 : List Nat := [0, 3, 1, 3, 1, 3, 1, 3]
def mv_2_4 : List Mv := [{ s := [0, 0], bit := 1, neg := 1, q := [], nm := [1000, 1000, 1000, 1000, 1000, 1000, 1000, 1000] },
  { s := [0, 1], bit := 2, neg := 8, q := [(119, 1, 136, 3)], nm := [1000, 1, 1000, 3, 1000, 1000, 1000, 1000] },
  { s := [0, 2], bit := 4, neg := 4, q := [(51, 2, 204, 2)], nm := [1000, 2, 1, 2, 1000, 2, 1000, 2] },
  { s := [0, 3], bit := 8, neg := 2, q := [(17, 3, 238, 1)], nm := [1000, 3, 1000, 1, 1000, 1000, 1000, 1000] },
  { s := [1, 0], bit := 16, neg := 16, q := [(15, 4, 240, 4)], nm := [1000, 1000, 1000, 1000, 1, 1000, 1000, 1000] },
  { s := [1, 1], bit := 32, neg := 128, q := [(15, 4, 240, 4), (119, 1, 136, 3)], nm := [1000, 1000, 1000, 1000, 1000, 1, 1000, 3] },
  { s := [1, 2], bit := 64, neg := 64, q := [(15, 4, 240, 4), (51, 2, 204, 2)], nm := [1000, 1000, 1000, 1000, 1000, 1000, 1, 1000] },
  { s := [1, 3], bit := 128, neg := 32, q := [(15, 4, 240, 4), (17, 3, 238, 1)], nm := [1000, 1000, 1000, 1000, 1000, 3, 1000, 1] }]
theorem tr_2_4 : tree 8 ks_2_4 10 (mv_2_4.drop 1) 0 0 [] = true := by decide +kernel
def ks_3_3 : List Nat := [0, 2, 2, 2, 2, 2, 2, 2, 2]
def mv_3_3 : List Mv := [{ s := [0, 0], bit := 1, neg := 1, q := [], nm := [1000, 1000, 1000, 1000, 1000, 1000, 1000, 1000, 1000] },
  { s := [0, 1], bit := 2, neg := 4, q := [(219, 1, 292, 2)], nm := [1000, 1, 2, 1000, 1000, 1000, 1000, 1000, 1000] },
  { s := [0, 2], bit := 4, neg := 2, q := [(73, 2, 438, 1)], nm := [1000, 2, 1, 1000, 1000, 1000, 1000, 1000, 1000] },
  { s := [1, 0], bit := 8, neg := 64, q := [(63, 3, 448, 6)], nm := [1000, 1000, 1000, 1, 1000, 1000, 2, 1000, 1000] },
  { s := [1, 1], bit := 16, neg := 256, q := [(63, 3, 448, 6), (219, 1, 292, 2)], nm := [1000, 1000, 1000, 1000, 1, 1000, 1000, 1000, 2] },
  { s := [1, 2], bit := 32, neg := 128, q := [(63, 3, 448, 6), (73, 2, 438, 1)], nm := [1000, 1000, 1000, 1000, 1000, 1, 1000, 2, 1000] },
  { s := [2, 0], bit := 64, neg := 8, q := [(7, 6, 504, 3)], nm := [1000, 1000, 1000, 2, 1000, 1000, 1, 1000, 1000] },
  { s := [2, 1], bit := 128, neg := 32, q := [(7, 6, 504, 3), (219, 1, 292, 2)], nm := [1000, 1000, 1000, 1000, 1000, 2, 1000, 1, 1000] },
  { s := [2, 2], bit := 256, neg := 16, q := [(7, 6, 504, 3), (73, 2, 438, 1)], nm := [1000, 1000, 1000, 1000, 2, 1000, 1000, 1000, 1] }]
theorem tr_3_3 : tree 9 ks_3_3 10 (mv_3_3.drop 1) 0 0 [] = true := by decide +kernel
def ks_2_6 : List Nat := [0, 5, 2, 1, 2, 5, 1, 5, 5, 1, 5, 5]
def mv_2_6 : List Mv := [{ s := [0, 0], bit := 1, neg := 1, q := [], nm := [1000, 1000, 1000, 1000, 1000, 1000, 1000, 1000, 1000, 1000, 1000, 1000] },
  { s := [0, 1], bit := 2, neg := 32, q := [(2015, 1, 2080, 5)], nm := [1000, 1, 1000, 1000, 1000, 5, 1000, 1000, 1000, 1000, 1000, 1000] },
  { s := [0, 2], bit := 4, neg := 16, q := [(975, 2, 3120, 4)], nm := [1000, 2, 1, 1000, 2, 4, 1000, 2, 4, 1000, 2, 4] },
  { s := [0, 3], bit := 8, neg := 8, q := [(455, 3, 3640, 3)], nm := [1000, 3, 1000, 1, 1000, 3, 1000, 1000, 1000, 1000, 1000, 1000] },
  { s := [0, 4], bit := 16, neg := 4, q := [(195, 4, 3900, 2)], nm := [1000, 4, 2, 1000, 1, 2, 1000, 4, 2, 1000, 4, 2] },
  { s := [0, 5], bit := 32, neg := 2, q := [(65, 5, 4030, 1)], nm := [1000, 5, 1000, 1000, 1000, 1, 1000, 1000, 1000, 1000, 1000, 1000] },
  { s := [1, 0], bit := 64, neg := 64, q := [(63, 6, 4032, 6)], nm := [1000, 1000, 1000, 1000, 1000, 1000, 1, 1000, 3, 1000, 3, 1000] },
  { s := [1, 1], bit := 128, neg := 2048, q := [(63, 6, 4032, 6), (2015, 1, 2080, 5)], nm := [1000, 1000, 1000, 1000, 1000, 1000, 1000, 1, 1000, 1000, 1000, 5] },
  { s := [1, 2], bit := 256, neg := 1024, q := [(63, 6, 4032, 6), (975, 2, 3120, 4)], nm := [1000, 1000, 1000, 1000, 1000, 1000, 1000, 1000, 1, 1000, 5, 1000] },
  { s := [1, 3], bit := 512, neg := 512, q := [(63, 6, 4032, 6), (455, 3, 3640, 3)], nm := [1000, 1000, 1000, 1000, 1000, 1000, 1000, 3, 1000, 1, 1000, 3] },
  { s := [1, 4], bit := 1024, neg := 256, q := [(63, 6, 4032, 6), (195, 4, 3900, 2)], nm := [1000, 1000, 1000, 1000, 1000, 1000, 1000, 1000, 5, 1000, 1, 1000] },
  { s := [1, 5], bit := 2048, neg := 128, q := [(63, 6, 4032, 6), (65, 5, 4030, 1)], nm := [1000, 1000, 1000, 1000, 1000, 1000, 1000, 5, 1000, 1000, 1000, 1] }]
theorem tr_2_6 : tree 12 ks_2_6 10 (mv_2_6.drop 1) 0 0 [] = true := by decide +kernel
def ks_4_4 : List Nat := [0, 3, 1, 3, 3, 3, 3, 3, 1, 3, 1, 3, 3, 3, 3, 3]
def mv_4_4 : List Mv := [{ s := [0, 0], bit := 1, neg := 1, q := [], nm := [1000, 1000, 1000, 1000, 1000, 1000, 1000, 1000, 1000, 1000, 1000, 1000, 1000, 1000, 1000, 1000] },
  { s := [0, 1], bit := 2, neg := 8, q := [(30583, 1, 34952, 3)], nm := [1000, 1, 1000, 3, 1000, 1000, 1000, 1000, 1000, 1000, 1000, 1000, 1000, 1000, 1000, 1000] },
  { s := [0, 2], bit := 4, neg := 4, q := [(13107, 2, 52428, 2)], nm := [1000, 2, 1, 2, 1000, 1000, 1000, 1000, 1000, 2, 1000, 2, 1000, 1000, 1000, 1000] },
  { s := [0, 3], bit := 8, neg := 2, q := [(4369, 3, 61166, 1)], nm := [1000, 3, 1000, 1, 1000, 1000, 1000, 1000, 1000, 1000, 1000, 1000, 1000, 1000, 1000, 1000] },
  { s := [1, 0], bit := 16, neg := 4096, q := [(4095, 4, 61440, 12)], nm := [1000, 1000, 1000, 1000, 1, 1000, 1000, 1000, 1000, 1000, 1000, 1000, 3, 1000, 1000, 1000] },
  { s := [1, 1], bit := 32, neg := 32768, q := [(4095, 4, 61440, 12), (30583, 1, 34952, 3)], nm := [1000, 1000, 1000, 1000, 1000, 1, 1000, 1000, 1000, 1000, 1000, 1000, 1000, 1000, 1000, 3] },
  { s := [1, 2], bit := 64, neg := 16384, q := [(4095, 4, 61440, 12), (13107, 2, 52428, 2)], nm := [1000, 1000, 1000, 1000, 1000, 1000, 1, 1000, 1000, 1000, 1000, 1000, 1000, 1000, 3, 1000] },
  { s := [1, 3], bit := 128, neg := 8192, q := [(4095, 4, 61440, 12), (4369, 3, 61166, 1)], nm := [1000, 1000, 1000, 1000, 1000, 1000, 1000, 1, 1000, 1000, 1000, 1000, 1000, 3, 1000, 1000] },
  { s := [2, 0], bit := 256, neg := 256, q := [(255, 8, 65280, 8)], nm := [1000, 1000, 1000, 1000, 2, 1000, 2, 1000, 1, 1000, 1000, 1000, 2, 1000, 2, 1000] },
  { s := [2, 1], bit := 512, neg := 2048, q := [(255, 8, 65280, 8), (30583, 1, 34952, 3)], nm := [1000, 1000, 1000, 1000, 1000, 1000, 1000, 1000, 1000, 1, 1000, 3, 1000, 1000, 1000, 1000] },
  { s := [2, 2], bit := 1024, neg := 1024, q := [(255, 8, 65280, 8), (13107, 2, 52428, 2)], nm := [1000, 1000, 1000, 1000, 1000, 2, 1000, 2, 1000, 1000, 1, 1000, 1000, 2, 1000, 2] },
  { s := [2, 3], bit := 2048, neg := 512, q := [(255, 8, 65280, 8), (4369, 3, 61166, 1)], nm := [1000, 1000, 1000, 1000, 1000, 1000, 1000, 1000, 1000, 3, 1000, 1, 1000, 1000, 1000, 1000] },
  { s := [3, 0], bit := 4096, neg := 16, q := [(15, 12, 65520, 4)], nm := [1000, 1000, 1000, 1000, 3, 1000, 1000, 1000, 1000, 1000, 1000, 1000, 1, 1000, 1000, 1000] },
  { s := [3, 1], bit := 8192, neg := 128, q := [(15, 12, 65520, 4), (30583, 1, 34952, 3)], nm := [1000, 1000, 1000, 1000, 1000, 1000, 1000, 3, 1000, 1000, 1000, 1000, 1000, 1, 1000, 1000] },
  { s := [3, 2], bit := 16384, neg := 64, q := [(15, 12, 65520, 4), (13107, 2, 52428, 2)], nm := [1000, 1000, 1000, 1000, 1000, 1000, 3, 1000, 1000, 1000, 1000, 1000, 1000, 1000, 1, 1000] },
  { s := [3, 3], bit := 32768, neg := 32, q := [(15, 12, 65520, 4), (4369, 3, 61166, 1)], nm := [1000, 1000, 1000, 1000, 1000, 3, 1000, 1000, 1000, 1000, 1000, 1000, 1000, 1000, 1000, 1] }]
theorem tr_4_4 : tree 16 ks_4_4 10 (mv_4_4.drop 1) 0 0 [] = true := by decide +kernel
def ks_2_2_2 : List Nat := [0, 1, 1, 1, 1, 1, 1, 1]
def mv_2_2_2 : List Mv := [{ s := [0, 0, 0], bit := 1, neg := 1, q := [], nm := [1000, 1000, 1000, 1000, 1000, 1000, 1000, 1000] },
  { s := [0, 0, 1], bit := 2, neg := 2, q := [(85, 1, 170, 1)], nm := [1000, 1, 1000, 1000, 1000, 1000, 1000, 1000] },
  { s := [0, 1, 0], bit := 4, neg := 4, q := [(51, 2, 204, 2)], nm := [1000, 1000, 1, 1000, 1000, 1000, 1000, 1000] },
  { s := [0, 1, 1], bit := 8, neg := 8, q := [(51, 2, 204, 2), (85, 1, 170, 1)], nm := [1000, 1000, 1000, 1, 1000, 1000, 1000, 1000] },
  { s := [1, 0, 0], bit := 16, neg := 16, q := [(15, 4, 240, 4)], nm := [1000, 1000, 1000, 1000, 1, 1000, 1000, 1000] },
  { s := [1, 0, 1], bit := 32, neg := 32, q := [(15, 4, 240, 4), (85, 1, 170, 1)], nm := [1000, 1000, 1000, 1000, 1000, 1, 1000, 1000] },
  { s := [1, 1, 0], bit := 64, neg := 64, q := [(15, 4, 240, 4), (51, 2, 204, 2)], nm := [1000, 1000, 1000, 1000, 1000, 1000, 1, 1000] },
  { s := [1, 1, 1], bit := 128, neg := 128, q := [(15, 4, 240, 4), (51, 2, 204, 2), (85, 1, 170, 1)], nm := [1000, 1000, 1000, 1000, 1000, 1000, 1000, 1] }]
theorem tr_2_2_2 : tree 8 ks_2_2_2 10 (mv_2_2_2.drop 1) 0 0 [] = true := by decide +kernel
def ks_3_6 : List Nat := [0, 5, 2, 1, 2, 5, 2, 5, 2, 5, 2, 5, 2, 5, 2, 5, 2, 5]
def mv_3_6 : List Mv := [{ s := [0, 0], bit := 1, neg := 1, q := [], nm := [1000, 1000, 1000, 1000, 1000, 1000, 1000, 1000, 1000, 1000, 1000, 1000, 1000, 1000, 1000, 1000, 1000, 1000] },
  { s := [0, 1], bit := 2, neg := 32, q := [(128991, 1, 133152, 5)], nm := [1000, 1, 1000, 1000, 1000, 5, 1000, 1000, 1000, 1000, 1000, 1000, 1000, 1000, 1000, 1000, 1000, 1000] },
  { s := [0, 2], bit := 4, neg := 16, q := [(62415, 2, 199728, 4)], nm := [1000, 2, 1, 1000, 2, 4, 1000, 1000, 1000, 1000, 1000, 1000, 1000, 1000, 1000, 1000, 1000, 1000] },
  { s := [0, 3], bit := 8, neg := 8, q := [(29127, 3, 233016, 3)], nm := [1000, 3, 1000, 1, 1000, 3, 1000, 3, 1000, 3, 1000, 3, 1000, 3, 1000, 3, 1000, 3] },
  { s := [0, 4], bit := 16, neg := 4, q := [(12483, 4, 249660, 2)], nm := [1000, 4, 2, 1000, 1, 2, 1000, 1000, 1000, 1000, 1000, 1000, 1000, 1000, 1000, 1000, 1000, 1000] },
  { s := [0, 5], bit := 32, neg := 2, q := [(4161, 5, 257982, 1)], nm := [1000, 5, 1000, 1000, 1000, 1, 1000, 1000, 1000, 1000, 1000, 1000, 1000, 1000, 1000, 1000, 1000, 1000] },
  { s := [1, 0], bit := 64, neg := 4096, q := [(4095, 6, 258048, 12)], nm := [1000, 1000, 1000, 1000, 1000, 1000, 1, 1000, 1000, 4, 1000, 1000, 2, 1000, 1000, 2, 1000, 1000] },
  { s := [1, 1], bit := 128, neg := 131072, q := [(4095, 6, 258048, 12), (128991, 1, 133152, 5)], nm := [1000, 1000, 1000, 1000, 1000, 1000, 1000, 1, 1000, 1000, 1000, 1000, 1000, 1000, 1000, 1000, 1000, 5] },
  { s := [1, 2], bit := 256, neg := 65536, q := [(4095, 6, 258048, 12), (62415, 2, 199728, 4)], nm := [1000, 1000, 1000, 1000, 1000, 1000, 1000, 1000, 1, 1000, 1000, 4, 1000, 2, 1000, 1000, 2, 1000] },
  { s := [1, 3], bit := 512, neg := 32768, q := [(4095, 6, 258048, 12), (29127, 3, 233016, 3)], nm := [1000, 1000, 1000, 1000, 1000, 1000, 1000, 1000, 1000, 1, 1000, 1000, 1000, 1000, 1000, 5, 1000, 1000] },
  { s := [1, 4], bit := 1024, neg := 16384, q := [(4095, 6, 258048, 12), (12483, 4, 249660, 2)], nm := [1000, 1000, 1000, 1000, 1000, 1000, 1000, 4, 1000, 1000, 1, 1000, 1000, 1000, 2, 1000, 1000, 2] },
  { s := [1, 5], bit := 2048, neg := 8192, q := [(4095, 6, 258048, 12), (4161, 5, 257982, 1)], nm := [1000, 1000, 1000, 1000, 1000, 1000, 1000, 1000, 1000, 1000, 1000, 1, 1000, 5, 1000, 1000, 1000, 1000] },
  { s := [2, 0], bit := 4096, neg := 64, q := [(63, 12, 262080, 6)], nm := [1000, 1000, 1000, 1000, 1000, 1000, 2, 1000, 1000, 2, 1000, 1000, 1, 1000, 1000, 4, 1000, 1000] },
  { s := [2, 1], bit := 8192, neg := 2048, q := [(63, 12, 262080, 6), (128991, 1, 133152, 5)], nm := [1000, 1000, 1000, 1000, 1000, 1000, 1000, 1000, 1000, 1000, 1000, 5, 1000, 1, 1000, 1000, 1000, 1000] },
  { s := [2, 2], bit := 16384, neg := 1024, q := [(63, 12, 262080, 6), (62415, 2, 199728, 4)], nm := [1000, 1000, 1000, 1000, 1000, 1000, 1000, 2, 1000, 1000, 2, 1000, 1000, 1000, 1, 1000, 1000, 4] },
  { s := [2, 3], bit := 32768, neg := 512, q := [(63, 12, 262080, 6), (29127, 3, 233016, 3)], nm := [1000, 1000, 1000, 1000, 1000, 1000, 1000, 1000, 1000, 5, 1000, 1000, 1000, 1000, 1000, 1, 1000, 1000] },
  { s := [2, 4], bit := 65536, neg := 256, q := [(63, 12, 262080, 6), (12483, 4, 249660, 2)], nm := [1000, 1000, 1000, 1000, 1000, 1000, 1000, 1000, 2, 1000, 1000, 2, 1000, 4, 1000, 1000, 1, 1000] },
  { s := [2, 5], bit := 131072, neg := 128, q := [(63, 12, 262080, 6), (4161, 5, 257982, 1)], nm := [1000, 1000, 1000, 1000, 1000, 1000, 1000, 5, 1000, 1000, 1000, 1000, 1000, 1000, 1000, 1000, 1000, 1] }]
theorem tr_3_6 : tree 18 ks_3_6 10 (mv_3_6.drop 1) 0 0 [] = true := by decide +kernel
def ks_2_3 : List Nat := [0, 2, 2, 1, 5, 5]
def mv_2_3 : List Mv := [{ s := [0, 0], bit := 1, neg := 1, q := [], nm := [1000, 1000, 1000, 1000, 1000, 1000] },
  { s := [0, 1], bit := 2, neg := 4, q := [(27, 1, 36, 2)], nm := [1000, 1, 2, 1000, 4, 2] },
  { s := [0, 2], bit := 4, neg := 2, q := [(9, 2, 54, 1)], nm := [1000, 2, 1, 1000, 2, 4] },
  { s := [1, 0], bit := 8, neg := 8, q := [(7, 3, 56, 3)], nm := [1000, 1000, 1000, 1, 3, 3] },
  { s := [1, 1], bit := 16, neg := 32, q := [(7, 3, 56, 3), (27, 1, 36, 2)], nm := [1000, 1000, 1000, 1000, 1, 5] },
  { s := [1, 2], bit := 32, neg := 16, q := [(7, 3, 56, 3), (9, 2, 54, 1)], nm := [1000, 1000, 1000, 1000, 5, 1] }]
theorem tr_2_3 : tree 6 ks_2_3 10 (mv_2_3.drop 1) 0 0 [] = true := by decide +kernel
def ks_16 : List Nat := [0, 15, 7, 15, 3, 15, 7, 15, 1, 15, 7, 15, 3, 15, 7, 15]
def mv_16 : List Mv := [{ s := [0], bit := 1, neg := 1, q := [], nm := [1000, 1000, 1000, 1000, 1000, 1000, 1000, 1000, 1000, 1000, 1000, 1000, 1000, 1000, 1000, 1000] },
  { s := [1], bit := 2, neg := 32768, q := [(32767, 1, 32768, 15)], nm := [1000, 1, 1000, 11, 1000, 13, 1000, 7, 1000, 9, 1000, 3, 1000, 5, 1000, 15] },
  { s := [2], bit := 4, neg := 16384, q := [(16383, 2, 49152, 14)], nm := [1000, 2, 1, 6, 1000, 10, 3, 14, 1000, 2, 5, 6, 1000, 10, 7, 14] },
  { s := [3], bit := 8, neg := 8192, q := [(8191, 3, 57344, 13)], nm := [1000, 3, 1000, 1, 1000, 7, 1000, 5, 1000, 11, 1000, 9, 1000, 15, 1000, 13] },
  { s := [4], bit := 16, neg := 4096, q := [(4095, 4, 61440, 12)], nm := [1000, 4, 2, 12, 1, 4, 6, 12, 1000, 4, 2, 12, 3, 4, 6, 12] },
  { s := [5], bit := 32, neg := 2048, q := [(2047, 5, 63488, 11)], nm := [1000, 5, 1000, 7, 1000, 1, 1000, 3, 1000, 13, 1000, 15, 1000, 9, 1000, 11] },
  { s := [6], bit := 64, neg := 1024, q := [(1023, 6, 64512, 10)], nm := [1000, 6, 3, 2, 1000, 14, 1, 10, 1000, 6, 7, 2, 1000, 14, 5, 10] },
  { s := [7], bit := 128, neg := 512, q := [(511, 7, 65024, 9)], nm := [1000, 7, 1000, 13, 1000, 11, 1000, 1, 1000, 15, 1000, 5, 1000, 3, 1000, 9] },
  { s := [8], bit := 256, neg := 256, q := [(255, 8, 65280, 8)], nm := [1000, 8, 4, 8, 2, 8, 4, 8, 1, 8, 4, 8, 2, 8, 4, 8] },
  { s := [9], bit := 512, neg := 128, q := [(127, 9, 65408, 7)], nm := [1000, 9, 1000, 3, 1000, 5, 1000, 15, 1000, 1, 1000, 11, 1000, 13, 1000, 7] },
  { s := [10], bit := 1024, neg := 64, q := [(63, 10, 65472, 6)], nm := [1000, 10, 5, 14, 1000, 2, 7, 6, 1000, 10, 1, 14, 1000, 2, 3, 6] },
  { s := [11], bit := 2048, neg := 32, q := [(31, 11, 65504, 5)], nm := [1000, 11, 1000, 9, 1000, 15, 1000, 13, 1000, 3, 1000, 1, 1000, 7, 1000, 5] },
  { s := [12], bit := 4096, neg := 16, q := [(15, 12, 65520, 4)], nm := [1000, 12, 6, 4, 3, 12, 2, 4, 1000, 12, 6, 4, 1, 12, 2, 4] },
  { s := [13], bit := 8192, neg := 8, q := [(7, 13, 65528, 3)], nm := [1000, 13, 1000, 15, 1000, 9, 1000, 11, 1000, 5, 1000, 7, 1000, 1, 1000, 3] },
  { s := [14], bit := 16384, neg := 4, q := [(3, 14, 65532, 2)], nm := [1000, 14, 7, 10, 1000, 6, 5, 2, 1000, 14, 3, 10, 1000, 6, 1, 2] },
  { s := [15], bit := 32768, neg := 2, q := [(1, 15, 65534, 1)], nm := [1000, 15, 1000, 5, 1000, 3, 1000, 9, 1000, 7, 1000, 13, 1000, 11, 1000, 1] }]
theorem tr_16 : tree 16 ks_16 10 (mv_16.drop 1) 0 0 [] = true := by decide +kernel
def ks_15 : List Nat := [0, 14, 14, 4, 14, 2, 4, 14, 14, 4, 2, 14, 4, 14, 14]
def mv_15 : List Mv := [{ s := [0], bit := 1, neg := 1, q := [], nm := [1000, 1000, 1000, 1000, 1000, 1000, 1000, 1000, 1000, 1000, 1000, 1000, 1000, 1000, 1000] },
  { s := [1], bit := 2, neg := 16384, q := [(16383, 1, 16384, 14)], nm := [1000, 1, 8, 1000, 4, 1000, 1000, 13, 2, 1000, 1000, 11, 1000, 7, 14] },
  { s := [2], bit := 4, neg := 8192, q := [(8191, 2, 24576, 13)], nm := [1000, 2, 1, 1000, 8, 1000, 1000, 11, 4, 1000, 1000, 7, 1000, 14, 13] },
  { s := [3], bit := 8, neg := 4096, q := [(4095, 3, 28672, 12)], nm := [1000, 3, 9, 1, 12, 1000, 3, 9, 6, 2, 1000, 3, 4, 6, 12] },
  { s := [4], bit := 16, neg := 2048, q := [(2047, 4, 30720, 11)], nm := [1000, 4, 2, 1000, 1, 1000, 1000, 7, 8, 1000, 1000, 14, 1000, 13, 11] },
  { s := [5], bit := 32, neg := 1024, q := [(1023, 5, 31744, 10)], nm := [1000, 5, 10, 1000, 5, 1, 1000, 5, 10, 1000, 2, 10, 1000, 5, 10] },
  { s := [6], bit := 64, neg := 512, q := [(511, 6, 32256, 9)], nm := [1000, 6, 3, 2, 9, 1000, 1, 3, 12, 4, 1000, 6, 3, 12, 9] },
  { s := [7], bit := 128, neg := 256, q := [(255, 7, 32512, 8)], nm := [1000, 7, 11, 1000, 13, 1000, 1000, 1, 14, 1000, 1000, 2, 1000, 4, 8] },
  { s := [8], bit := 256, neg := 128, q := [(127, 8, 32640, 7)], nm := [1000, 8, 4, 1000, 2, 1000, 1000, 14, 1, 1000, 1000, 13, 1000, 11, 7] },
  { s := [9], bit := 512, neg := 64, q := [(63, 9, 32704, 6)], nm := [1000, 9, 12, 3, 6, 1000, 4, 12, 3, 1, 1000, 9, 2, 3, 6] },
  { s := [10], bit := 1024, neg := 32, q := [(31, 10, 32736, 5)], nm := [1000, 10, 5, 1000, 10, 2, 1000, 10, 5, 1000, 1, 5, 1000, 10, 5] },
  { s := [11], bit := 2048, neg := 16, q := [(15, 11, 32752, 4)], nm := [1000, 11, 13, 1000, 14, 1000, 1000, 8, 7, 1000, 1000, 1, 1000, 2, 4] },
  { s := [12], bit := 4096, neg := 8, q := [(7, 12, 32760, 3)], nm := [1000, 12, 6, 4, 3, 1000, 2, 6, 9, 3, 1000, 12, 1, 9, 3] },
  { s := [13], bit := 8192, neg := 4, q := [(3, 13, 32764, 2)], nm := [1000, 13, 14, 1000, 7, 1000, 1000, 4, 11, 1000, 1000, 8, 1000, 1, 2] },
  { s := [14], bit := 16384, neg := 2, q := [(1, 14, 32766, 1)], nm := [1000, 14, 7, 1000, 11, 1000, 1000, 2, 13, 1000, 1000, 4, 1000, 8, 1] }]
theorem tr_15 : tree 15 ks_15 10 (mv_15.drop 1) 0 0 [] = true := by decide +kernel
def ks_2_2_4 : List Nat := [0, 3, 1, 3, 1, 3, 1, 3, 1, 3, 1, 3, 1, 3, 1, 3]
def mv_2_2_4 : List Mv := [{ s := [0, 0, 0], bit := 1, neg := 1, q := [], nm := [1000, 1000, 1000, 1000, 1000, 1000, 1000, 1000, 1000, 1000, 1000, 1000, 1000, 1000, 1000, 1000] },
  { s := [0, 0, 1], bit := 2, neg := 8, q := [(30583, 1, 34952, 3)], nm := [1000, 1, 1000, 3, 1000, 1000, 1000, 1000, 1000, 1000, 1000, 1000, 1000, 1000, 1000, 1000] },
  { s := [0, 0, 2], bit := 4, neg := 4, q := [(13107, 2, 52428, 2)], nm := [1000, 2, 1, 2, 1000, 2, 1000, 2, 1000, 2, 1000, 2, 1000, 2, 1000, 2] },
  { s := [0, 0, 3], bit := 8, neg := 2, q := [(4369, 3, 61166, 1)], nm := [1000, 3, 1000, 1, 1000, 1000, 1000, 1000, 1000, 1000, 1000, 1000, 1000, 1000, 1000, 1000] },
  { s := [0, 1, 0], bit := 16, neg := 16, q := [(3855, 4, 61680, 4)], nm := [1000, 1000, 1000, 1000, 1, 1000, 1000, 1000, 1000, 1000, 1000, 1000, 1000, 1000, 1000, 1000] },
  { s := [0, 1, 1], bit := 32, neg := 128, q := [(3855, 4, 61680, 4), (30583, 1, 34952, 3)], nm := [1000, 1000, 1000, 1000, 1000, 1, 1000, 3, 1000, 1000, 1000, 1000, 1000, 1000, 1000, 1000] },
  { s := [0, 1, 2], bit := 64, neg := 64, q := [(3855, 4, 61680, 4), (13107, 2, 52428, 2)], nm := [1000, 1000, 1000, 1000, 1000, 1000, 1, 1000, 1000, 1000, 1000, 1000, 1000, 1000, 1000, 1000] },
  { s := [0, 1, 3], bit := 128, neg := 32, q := [(3855, 4, 61680, 4), (4369, 3, 61166, 1)], nm := [1000, 1000, 1000, 1000, 1000, 3, 1000, 1, 1000, 1000, 1000, 1000, 1000, 1000, 1000, 1000] },
  { s := [1, 0, 0], bit := 256, neg := 256, q := [(255, 8, 65280, 8)], nm := [1000, 1000, 1000, 1000, 1000, 1000, 1000, 1000, 1, 1000, 1000, 1000, 1000, 1000, 1000, 1000] },
  { s := [1, 0, 1], bit := 512, neg := 2048, q := [(255, 8, 65280, 8), (30583, 1, 34952, 3)], nm := [1000, 1000, 1000, 1000, 1000, 1000, 1000, 1000, 1000, 1, 1000, 3, 1000, 1000, 1000, 1000] },
  { s := [1, 0, 2], bit := 1024, neg := 1024, q := [(255, 8, 65280, 8), (13107, 2, 52428, 2)], nm := [1000, 1000, 1000, 1000, 1000, 1000, 1000, 1000, 1000, 1000, 1, 1000, 1000, 1000, 1000, 1000] },
  { s := [1, 0, 3], bit := 2048, neg := 512, q := [(255, 8, 65280, 8), (4369, 3, 61166, 1)], nm := [1000, 1000, 1000, 1000, 1000, 1000, 1000, 1000, 1000, 3, 1000, 1, 1000, 1000, 1000, 1000] },
  { s := [1, 1, 0], bit := 4096, neg := 4096, q := [(255, 8, 65280, 8), (3855, 4, 61680, 4)], nm := [1000, 1000, 1000, 1000, 1000, 1000, 1000, 1000, 1000, 1000, 1000, 1000, 1, 1000, 1000, 1000] },
  { s := [1, 1, 1], bit := 8192, neg := 32768, q := [(255, 8, 65280, 8), (3855, 4, 61680, 4), (30583, 1, 34952, 3)], nm := [1000, 1000, 1000, 1000, 1000, 1000, 1000, 1000, 1000, 1000, 1000, 1000, 1000, 1, 1000, 3] },
  { s := [1, 1, 2], bit := 16384, neg := 16384, q := [(255, 8, 65280, 8), (3855, 4, 61680, 4), (13107, 2, 52428, 2)], nm := [1000, 1000, 1000, 1000, 1000, 1000, 1000, 1000, 1000, 1000, 1000, 1000, 1000, 1000, 1, 1000] },
  { s := [1, 1, 3], bit := 32768, neg := 8192, q := [(255, 8, 65280, 8), (3855, 4, 61680, 4), (4369, 3, 61166, 1)], nm := [1000, 1000, 1000, 1000, 1000, 1000, 1000, 1000, 1000, 1000, 1000, 1000, 1000, 3, 1000, 1] }]
theorem tr_2_2_4 : tree 16 ks_2_2_4 10 (mv_2_2_4.drop 1) 0 0 [] = true := by decide +kernel
end E2
end
section
set_option Elab.async false
set_option linter.all false
set_option maxRecDepth 100000
set_option maxHeartbeats 4000000
namespace E2
open PySem PySem.Spec PyProof.Rows L2 DL
theorem ok_2 : okT [2] 2 ks_2 mv_2 = true := by decide +kernel
theorem ok_3 : okT [3] 3 ks_3 mv_3 = true := by decide +kernel
theorem ok_4 : okT [4] 4 ks_4 mv_4 = true := by decide +kernel
theorem ok_5 : okT [5] 5 ks_5 mv_5 = true := by decide +kernel
theorem ok_6 : okT [6] 6 ks_6 mv_6 = true := by decide +kernel
theorem ok_7 : okT [7] 7 ks_7 mv_7 = true := by decide +kernel
theorem ok_8 : okT [8] 8 ks_8 mv_8 = true := by decide +kernel
theorem ok_9 : okT [9] 9 ks_9 mv_9 = true := by decide +kernel
theorem ok_10 : okT [10] 10 ks_10 mv_10 = true := by decide +kernel
theorem ok_11 : okT [11] 11 ks_11 mv_11 = true := by decide +kernel
theorem ok_12 : okT [12] 12 ks_12 mv_12 = true := by decide +kernel
theorem ok_13 : okT [13] 13 ks_13 mv_13 = true := by decide +kernel
theorem ok_2_2 : okT [2, 2] 4 ks_2_2 mv_2_2 = true := by decide +kernel
theorem ok_2_4 : okT [2, 4] 8 ks_2_4 mv_2_4 = true := by decide +kernel
theorem ok_3_3 : okT [3, 3] 9 ks_3_3 mv_3_3 = true := by decide +kernel
theorem ok_2_6 : okT [2, 6] 12 ks_2_6 mv_2_6 = true := by decide +kernel
theorem ok_4_4 : okT [4, 4] 16 ks_4_4 mv_4_4 = true := by decide +kernel
theorem ok_2_2_2 : okT [2, 2, 2] 8 ks_2_2_2 mv_2_2_2 = true := by decide +kernel
theorem ok_3_6 : okT [3, 6] 18 ks_3_6 mv_3_6 = true := by decide +kernel
theorem ok_2_3 : okT [2, 3] 6 ks_2_3 mv_2_3 = true := by decide +kernel
theorem ok_16 : okT [16] 16 ks_16 mv_16 = true := by decide +kernel
theorem ok_15 : okT [15] 15 ks_15 mv_15 = true := by decide +kernel
theorem ok_2_2_4 : okT [2, 2, 4] 16 ks_2_2_4 mv_2_2_4 = true := by decide +kernel
theorem tabs {ws : List Int} (h : ws ∈ menu) : ∃ n ks mvs, OkT ws n ks mvs ∧ tree n ks 10 (mvs.drop 1) 0 0 [] = true := by
  unfold menu at h
  simp only [List.mem_cons, List.not_mem_nil, or_false] at h
  rcases h with rfl | rfl | rfl | rfl | rfl | rfl | rfl | rfl | rfl | rfl | rfl | rfl | rfl | rfl | rfl | rfl | rfl | rfl | rfl | rfl | rfl | rfl | rfl
  · exact ⟨_, _, _, okT_of ok_2, tr_2⟩
  · exact ⟨_, _, _, okT_of ok_3, tr_3⟩
  · exact ⟨_, _, _, okT_of ok_4, tr_4⟩
  · exact ⟨_, _, _, okT_of ok_5, tr_5⟩
  · exact ⟨_, _, _, okT_of ok_6, tr_6⟩
  · exact ⟨_, _, _, okT_of ok_7, tr_7⟩
  · exact ⟨_, _, _, okT_of ok_8, tr_8⟩
  · exact ⟨_, _, _, okT_of ok_9, tr_9⟩
  · exact ⟨_, _, _, okT_of ok_10, tr_10⟩
  · exact ⟨_, _, _, okT_of ok_11, tr_11⟩
  · exact ⟨_, _, _, okT_of ok_12, tr_12⟩
  · exact ⟨_, _, _, okT_of ok_13, tr_13⟩
  · exact ⟨_, _, _, okT_of ok_2_2, tr_2_2⟩
  · exact ⟨_, _, _, okT_of ok_2_4, tr_2_4⟩
  · exact ⟨_, _, _, okT_of ok_3_3, tr_3_3⟩
  · exact ⟨_, _, _, okT_of ok_2_6, tr_2_6⟩
  · exact ⟨_, _, _, okT_of ok_4_4, tr_4_4⟩
  · exact ⟨_, _, _, okT_of ok_2_2_2, tr_2_2_2⟩
  · exact ⟨_, _, _, okT_of ok_3_6, tr_3_6⟩
  · exact ⟨_, _, _, okT_of ok_2_3, tr_2_3⟩
  · exact ⟨_, _, _, okT_of ok_16, tr_16⟩
  · exact ⟨_, _, _, okT_of ok_15, tr_15⟩
  · exact ⟨_, _, _, okT_of ok_2_2_4, tr_2_2_4⟩
end E2
end
section
set_option Elab.async false
set_option linter.all false
set_option maxRecDepth 100000
set_option maxHeartbeats 4000000
namespace T2
open PySem PySem.Spec PyProof.Rows L2 DL RD
def top (i : Nat) : Stmt := PySem.Challenge.pw_nolothome_k02_whole_few_sums.main.body.getD i (.Pass ⟨0, 0, 0, 0⟩)
structure Txt (mg : Str → Option Value) : Prop where
  b_all : mg "all" = none
  b_bool : mg "bool" = none
  b_dict : mg "dict" = none
  b_enumerate : mg "enumerate" = none
  b_int : mg "int" = none
  b_isinstance : mg "isinstance" = none
  b_len : mg "len" = none
  b_list : mg "list" = none
  b_range : mg "range" = none
  b_set : mg "set" = none
  b_sorted : mg "sorted" = none
  b_str : mg "str" = none
  b_sum : mg "sum" = none
  b_tuple : mg "tuple" = none
  b_zip : mg "zip" = none
  c_MOST_PLACES : ∃ t, mg "MOST_PLACES" = some (.int 400 t)
  c_MOST_ROW : ∃ t, mg "MOST_ROW" = some (.int 40 t)
  c_MOST_WHEELS : ∃ t, mg "MOST_WHEELS" = some (.int 3 t)
section
variable {P : Program} {w : World} {K : PySem.W.Frag} {mg : Str → Option Value} {base : Heap} {tb : List Addr}
abbrev s_law_taken : Stmt := top 33
theorem sc__law_taken : FnScope ["_law_row_here", "_law_many", "_law_found", "_law_cell"] ["_law_row_here", "_law_many"] (defScope s_law_taken) := ⟨rfl, rfl, rfl, by decide +kernel, rfl, by decide +kernel, by decide +kernel⟩
theorem ok__law_taken {f : Addr} {fd : FuncData} (F : Fun K "_law_taken" "_law_taken" s_law_taken f fd) (T : Txt mg)  : FnOk P w K mg base (L2.CX P w) 1 f fd ["_law_row_here", "_law_many"] (spF P w K mg tb 2 false F__law_taken) :=
  fn_d (g := g__law_taken) F sc__law_taken false fun cdv A outer s H E B pin xc hr hp tk => (ss_cons (s_if (pt_cmp' op_gt (s_cmpI _ _) bl_cmpI (px_ixO 0 (pv 0) px_int (fun _ _ => rfl)) px_int (nomark _)) (ss_cons (s_set (i := 2) (.inr (by decide)) sc__law_taken.nd rfl (by first | exact Or.inl rfl | exact Or.inr rfl) (px_bin op_modN (s_mod _) (px_callTy call_int1 (s_int _) rfl T.b_int boot_int (px_cons (px_ixO 0 (pv 0) px_int (fun _ _ => rfl)) px_nil)) (px_v 1 (pv 1))))
      (ss_cons (s_setI 0 (pv 0) px_int (px_bin op_fdivN (s_fdiv _) (px_ixO 0 (pv 0) px_int (fun _ _ => rfl)) (px_v 1 (pv 1))))
      (ss_one (s_ret (px_v 2 (pv 2)))))) ss_nil)
      (ss_cons (s_setI 0 (pv 0) px_int (px_bin o_add (s_add _) (px_ixO 0 (pv 0) px_int (fun _ _ => rfl)) px_int))
      (ss_cons (s_if (pt_cmp' op_gt (s_cmpI _ _) bl_cmpI (px_ixO 0 (pv 0) px_int (fun _ _ => rfl)) (px_callB c_len (s_len _) rfl T.b_len PySem.boot_len (px_cons (px_ixO 0 (pv 0) px_int (fun _ _ => rfl)) px_nil)) (nomark _)) (ss_cons (s_setI 0 (pv 0) px_int (px_bin op_modN (s_mod _) (px_callTy call_int1 (s_int _) rfl T.b_int boot_int (px_cons (px_bin o_add (s_add _) (px_bin o_mul2 (s_mul2 _) (px_ixO 0 (pv 0) px_int (fun _ _ => rfl)) px_int) px_int) px_nil)) px_int))
      (ss_one (s_ret (px_bin op_modN (s_mod _) (px_callTy call_int1 (s_int _) rfl T.b_int boot_int (px_cons (px_bin op_fdivN (s_fdiv _) (px_ixO 0 (pv 0) px_int (fun _ _ => rfl)) px_int) px_nil)) (px_v 1 (pv 1)))))) ss_nil)
      (ss_cons (s_set (i := 3) (.inr (by decide)) sc__law_taken.nd rfl (by first | exact Or.inl rfl | exact Or.inr rfl) (px_ix ix_seq (s_ix _) (px_ixO 0 (pv 0) px_int (fun _ _ => rfl)) (px_bin op_sub (s_sub _) (px_ixO 0 (pv 0) px_int (fun _ _ => rfl)) px_int) (fun _ _ => rfl)))
      (ss_cons (s_setI 0 (pv 0) px_int (px_bin op_modN (s_mod _) (px_callTy call_int1 (s_int _) rfl T.b_int boot_int (px_cons (px_bin o_add (s_add _) (px_bin o_add (s_add _) (px_bin o_mul2 (s_mul2 _) (px_ixO 0 (pv 0) px_int (fun _ _ => rfl)) px_int) (px_v 3 (pv 3))) px_int) px_nil)) px_int))
      (ss_cons (s_if (pt_cmp' op_ge (s_cmpI _ _) bl_cmpI (px_v 3 (pv 3)) (px_bin op_pow (s_pow _) px_int px_int) (nomark _)) (ss_one (s_setI 0 (pv 0) px_int (px_bin op_fdivN (s_fdiv _) (px_v 3 (pv 3)) (px_v 1 (pv 1))))) ss_nil)
      (ss_one (s_ret (px_bin op_modN (s_mod _) (px_callTy call_int1 (s_int _) rfl T.b_int boot_int (px_cons (px_v 3 (pv 3)) px_nil)) (px_v 1 (pv 1)))))))))))
abbrev s_law_pick : Stmt := top 34
theorem sc__law_pick : FnScope ["_law_row_here", "_law_things"] ["_law_row_here", "_law_things"] (defScope s_law_pick) := ⟨rfl, rfl, rfl, by decide +kernel, rfl, by decide +kernel, by decide +kernel⟩
theorem ok__law_pick {f : Addr} {fd : FuncData} (F : Fun K "_law_pick" "_law_pick" s_law_pick f fd) (T : Txt mg) (C__law_taken : Cal P w K mg base tb 1 "_law_taken" 2 false F__law_taken) : FnOk P w K mg base (L2.CX P w) 2 f fd ["_law_row_here", "_law_things"] (spF P w K mg tb 2 false F__law_pick) :=
  fn_d (g := g__law_pick) F sc__law_pick false fun cdv A outer s H E B pin xc hr hp tk => (ss_one (s_ret (px_ix ix_seq (s_ix _) (px_v 1 (pv 1)) (px_callO 0 C__law_taken (hr.mono (by decide)) rfl rfl rfl rfl rfl tk (pv 0) (px_cons (px_callB c_len (s_len _) rfl T.b_len PySem.boot_len (px_cons (px_v 1 (pv 1)) px_nil)) px_nil)) (fun _ _ => rfl))))
abbrev s_law_wheels : Stmt := top 42
theorem sc__law_wheels : FnScope ["_law_row_here", "_law_rows"] ["_law_row_here"] (defScope s_law_wheels) := ⟨rfl, rfl, rfl, by decide +kernel, rfl, by decide +kernel, by decide +kernel⟩
theorem ok__law_wheels {f : Addr} {fd : FuncData} (F : Fun K "_law_wheels" "_law_wheels" s_law_wheels f fd) (T : Txt mg) (C__law_pick : Cal P w K mg base tb 2 "_law_pick" 2 false F__law_pick) : FnOk P w K mg base (L2.CX P w) 3 f fd ["_law_row_here"] (spF P w K mg tb 1 false F__law_wheels) :=
  fn_d (g := g__law_wheels) F sc__law_wheels false fun cdv A outer s H E B pin xc hr hp tk => (ss_cons (s_set (i := 1) (.inr (by decide)) sc__law_wheels.nd rfl (by first | exact Or.inl rfl | exact Or.inr rfl) (px_ofF (px_lstF (px_cons (px_tup (px_cons px_int px_nil)) (px_cons (px_tup (px_cons px_int px_nil)) (px_cons (px_tup (px_cons px_int px_nil)) (px_cons (px_tup (px_cons px_int px_nil)) (px_cons (px_tup (px_cons px_int px_nil)) (px_cons (px_tup (px_cons px_int px_nil)) (px_cons (px_tup (px_cons px_int px_nil)) (px_cons (px_tup (px_cons px_int px_nil)) (px_cons (px_tup (px_cons px_int px_nil)) (px_cons (px_tup (px_cons px_int px_nil)) px_nil)))))))))))))
      (ss_cons (s_set (i := 1) (.inr (by decide)) sc__law_wheels.nd rfl (by first | exact Or.inl rfl | exact Or.inr rfl) (px_bin o_add (s_add _) (px_v 1 (pv 1)) (px_ofF (px_lstF (px_cons (px_tup (px_cons px_int px_nil)) (px_cons (px_tup (px_cons px_int px_nil)) (px_cons (px_tup (px_cons px_int (px_cons px_int px_nil))) (px_cons (px_tup (px_cons px_int (px_cons px_int px_nil))) (px_cons (px_tup (px_cons px_int (px_cons px_int px_nil))) (px_cons (px_tup (px_cons px_int (px_cons px_int px_nil))) (px_cons (px_tup (px_cons px_int (px_cons px_int px_nil))) px_nil)))))))))))
      (ss_one (s_ret (px_callO 0 C__law_pick (hr.mono (by decide)) rfl rfl rfl rfl rfl tk (pv 0) (px_cons (px_bin o_add (s_add _) (px_v 1 (pv 1)) (px_ofF (px_lstF (px_cons (px_tup (px_cons px_int (px_cons px_int (px_cons px_int px_nil)))) (px_cons (px_tup (px_cons px_int (px_cons px_int px_nil))) (px_cons (px_tup (px_cons px_int (px_cons px_int px_nil))) (px_cons (px_tup (px_cons px_int px_nil)) (px_cons (px_tup (px_cons px_int px_nil)) (px_cons (px_tup (px_cons px_int (px_cons px_int (px_cons px_int px_nil)))) px_nil))))))))) px_nil))))))
abbrev s_law_steps : Stmt := top 39
theorem sc__law_steps : FnScope ["_law_wheels_here", "_law_found", "_law_wheel", "_law_longer", "_law_step", "_law_one"] ["_law_wheels_here"] (defScope s_law_steps) := ⟨rfl, rfl, rfl, by decide +kernel, rfl, by decide +kernel, by decide +kernel⟩
theorem ok__law_steps {f : Addr} {fd : FuncData} (F : Fun K "_law_steps" "_law_steps" s_law_steps f fd) (T : Txt mg)  : FnOk P w K mg base (L2.CX P w) 1 f fd ["_law_wheels_here"] (spF P w K mg tb 1 true F__law_steps) :=
  fn_d (g := g__law_steps) F sc__law_steps true fun cdv A outer s H E B pin xc hr hp tk => (ss_cons (s_set (i := 1) (.inl (hp rfl)) sc__law_steps.nd rfl (by first | exact Or.inl rfl | exact Or.inr rfl) (px_ofF (px_lstF (px_cons (px_tup px_nil) px_nil))))
      (ss_cons (s_for (passes_of rfl) rfl (i_seq rfl (px_v 0 (pv 0))) (g_n (i := 2) (.inl (hp rfl)) sc__law_steps.nd rfl (by first | exact Or.inl rfl | exact Or.inr rfl)) (ss_cons (s_set (i := 3) (.inl (hp rfl)) sc__law_steps.nd rfl (by first | exact Or.inl rfl | exact Or.inr rfl) (px_ofF (px_lstF px_nil)))
      (ss_cons (s_for (passes_of rfl) rfl (i_seq rfl (px_v 1 (pv 1))) (g_n (i := 4) (.inl (hp rfl)) sc__law_steps.nd rfl (by first | exact Or.inl rfl | exact Or.inr rfl)) (ss_one (s_set (i := 3) (.inl (hp rfl)) sc__law_steps.nd rfl (by first | exact Or.inl rfl | exact Or.inr rfl) (px_bin o_add (s_add _) (px_v 3 (pv 3)) (px_ofF (px_lc (own := [("_law_one", 5)]) rfl sc__law_steps.nd (i_range1 rfl T.b_range (px_cons (px_v 2 (pv 2)) px_nil)) (blkOk_by (N := ["_law_wheels_here", "_law_found", "_law_wheel", "_law_longer", "_law_step", "_law_one"]) (sc := defScope s_law_steps) (by decide +kernel)) (fun _ _ _ _ _ _ => (g_n (i := 5) (.inl (hp rfl)) sc__law_steps.nd rfl (by first | exact Or.inl rfl | exact Or.inr rfl))) (fun _ _ _ _ _ _ => ts_nil) (fun _ _ _ _ _ _ => (px_bin o_add (s_add _) (px_v 4 (pv 4)) (px_tup (px_cons (px_v 5 (pv 5)) px_nil)))) (by decide) (.inl (hp rfl))))))))
      (ss_one (s_set (i := 1) (.inl (hp rfl)) sc__law_steps.nd rfl (by first | exact Or.inl rfl | exact Or.inr rfl) (px_v 3 (pv 3)))))))
      (ss_one (s_ret (px_v 1 (pv 1))))))
abbrev s_law_times : Stmt := top 40
theorem sc__law_times : FnScope ["_law_wheels_here", "_law_step", "_law_number", "_law_at"] ["_law_wheels_here", "_law_step", "_law_number"] (defScope s_law_times) := ⟨rfl, rfl, rfl, by decide +kernel, rfl, by decide +kernel, by decide +kernel⟩
theorem ok__law_times {f : Addr} {fd : FuncData} (F : Fun K "_law_times" "_law_times" s_law_times f fd) (T : Txt mg)  : FnOk P w K mg base (L2.CX P w) 1 f fd ["_law_wheels_here", "_law_step", "_law_number"] (spF P w K mg tb 3 true F__law_times) :=
  fn_d (g := g__law_times) F sc__law_times true fun cdv A outer s H E B pin xc hr hp tk => (ss_one (s_ret (px_callTy call_tuple_of (s_tuple _) rfl T.b_tuple boot_tuple (px_cons (px_ofF (px_lc (own := [("_law_at", 3)]) rfl sc__law_times.nd (i_range1 rfl T.b_range (px_cons (px_callB c_len (s_len _) rfl T.b_len PySem.boot_len (px_cons (px_v 0 (pv 0)) px_nil)) px_nil)) (blkOk_by (N := ["_law_wheels_here", "_law_step", "_law_number", "_law_at"]) (sc := defScope s_law_times) (by decide +kernel)) (fun _ _ _ _ _ _ => (g_n (i := 3) (.inl (hp rfl)) sc__law_times.nd rfl (by first | exact Or.inl rfl | exact Or.inr rfl))) (fun _ _ _ _ _ _ => ts_nil) (fun _ _ _ _ _ _ => (px_bin op_modN (s_mod _) (px_bin o_mul2 (s_mul2 _) (px_ix ix_seq (s_ix _) (px_v 1 (pv 1)) (px_v 3 (pv 3)) (fun _ _ => rfl)) (px_v 2 (pv 2))) (px_ix ix_seq (s_ix _) (px_v 0 (pv 0)) (px_v 3 (pv 3)) (fun _ _ => rfl)))) (by decide) (.inl (hp rfl)))) px_nil))))
abbrev s_law_row : Stmt := top 43
theorem sc__law_row : FnScope ["_law_row_here", "_law_wheels_here", "_law_most", "_law_steps_here", "_law_count", "_law_unit", "_law_kind", "_law_turn", "_law_found", "_law_at"] ["_law_row_here", "_law_wheels_here", "_law_most"] (defScope s_law_row) := ⟨rfl, rfl, rfl, by decide +kernel, rfl, by decide +kernel, by decide +kernel⟩
theorem ok__law_row {f : Addr} {fd : FuncData} (F : Fun K "_law_row" "_law_row" s_law_row f fd) (T : Txt mg) (C__law_steps : Cal P w K mg base tb 1 "_law_steps" 1 true F__law_steps) (C__law_taken : Cal P w K mg base tb 1 "_law_taken" 2 false F__law_taken) (C__law_pick : Cal P w K mg base tb 2 "_law_pick" 2 false F__law_pick) (C__law_times : Cal P w K mg base tb 1 "_law_times" 3 true F__law_times) : FnOk P w K mg base (L2.CX P w) 3 f fd ["_law_row_here", "_law_wheels_here", "_law_most"] (spF P w K mg tb 3 false F__law_row) :=
  fn_d (g := g__law_row) F sc__law_row false fun cdv A outer s H E B pin xc hr hp tk => (ss_cons (s_set (i := 3) (.inr (by decide)) sc__law_row.nd rfl (by first | exact Or.inl rfl | exact Or.inr rfl) (px_call C__law_steps (hr.mono (by decide)) rfl rfl rfl rfl rfl tk (px_cons (px_v 1 (pv 1)) px_nil)))
      (ss_cons (s_asg (px_tup (px_cons (px_callO 0 C__law_taken (hr.mono (by decide)) rfl rfl rfl rfl rfl tk (pv 0) (px_cons (px_bin o_add (s_add _) (px_v 2 (pv 2)) px_int) px_nil)) (px_cons (px_callO 0 C__law_pick (hr.mono (by decide)) rfl rfl rfl rfl rfl tk (pv 0) (px_cons (px_v 3 (pv 3)) px_nil)) px_nil))) (g_tup rfl rfl (g_cons (g_n (i := 4) (.inr (by decide)) sc__law_row.nd rfl (by first | exact Or.inl rfl | exact Or.inr rfl)) (g_cons (g_n (i := 5) (.inr (by decide)) sc__law_row.nd rfl (by first | exact Or.inl rfl | exact Or.inr rfl)) g_nil))))
      (ss_cons (s_set (i := 6) (.inr (by decide)) sc__law_row.nd rfl (by first | exact Or.inl rfl | exact Or.inr rfl) (px_callO 0 C__law_taken (hr.mono (by decide)) rfl rfl rfl rfl rfl tk (pv 0) (px_cons px_int px_nil)))
      (ss_cons (s_if (pt_cmp' (op_eqD hr.units) (s_eq _) bl_eq (px_v 6 (pv 6)) px_int (nomark _)) (ss_one (s_ret (px_callTy call_tuple_of (s_tuple _) rfl T.b_tuple boot_tuple (px_cons (px_ofF (px_lc (own := [("_law_turn", 7)]) rfl sc__law_row.nd (i_range1 rfl T.b_range (px_cons (px_v 4 (pv 4)) px_nil)) (blkOk_by (N := ["_law_row_here", "_law_wheels_here", "_law_most", "_law_steps_here", "_law_count", "_law_unit", "_law_kind", "_law_turn", "_law_found", "_law_at"]) (sc := defScope s_law_row) (by decide +kernel)) (fun _ _ _ _ _ _ => (g_n (i := 7) (.inr (by decide)) sc__law_row.nd rfl (by first | exact Or.inl rfl | exact Or.inr rfl))) (fun _ _ _ _ _ _ => ts_nil) (fun _ _ _ _ _ _ => (px_callO 0 C__law_pick (hr.mono (by decide)) rfl rfl rfl rfl rfl takes0 (pv 0) (px_cons (px_v 3 (pv 3)) px_nil))) (by decide) (.inr (by decide)))) px_nil)))) ss_nil)
      (ss_cons (s_set (i := 8) (.inr (by decide)) sc__law_row.nd rfl (by first | exact Or.inl rfl | exact Or.inr rfl) (px_callTy call_tuple_of (s_tuple _) rfl T.b_tuple boot_tuple (px_cons (px_ofF (px_lc (own := [("_law_turn", 7)]) rfl sc__law_row.nd (i_range1 rfl T.b_range (px_cons (px_v 4 (pv 4)) px_nil)) (blkOk_by (N := ["_law_row_here", "_law_wheels_here", "_law_most", "_law_steps_here", "_law_count", "_law_unit", "_law_kind", "_law_turn", "_law_found", "_law_at"]) (sc := defScope s_law_row) (by decide +kernel)) (fun _ _ _ _ _ _ => (g_n (i := 7) (.inr (by decide)) sc__law_row.nd rfl (by first | exact Or.inl rfl | exact Or.inr rfl))) (fun _ _ _ _ _ _ => ts_nil) (fun _ _ _ _ _ _ => (px_call C__law_times (hr.mono (by decide)) rfl rfl rfl rfl rfl takes0 (px_cons (px_v 1 (pv 1)) (px_cons (px_v 5 (pv 5)) (px_cons (px_bin o_add (s_add _) px_int (px_callO 0 C__law_taken (hr.mono (by decide)) rfl rfl rfl rfl rfl takes0 (pv 0) (px_cons (px_bin o_add (s_add _) px_int (px_callO 0 C__law_taken (hr.mono (by decide)) rfl rfl rfl rfl rfl takes0 (pv 0) (px_cons px_int px_nil))) px_nil))) px_nil))))) (by decide) (.inr (by decide)))) px_nil)))
      (ss_cons (s_if (PW.pt (pw_or' (pt_cmp' (op_eqD hr.units) (s_eq _) bl_eq (px_v 6 (pv 6)) px_int (nomark _)) (pw_one_or (pt_cmp' (op_eqD hr.units) (s_eq _) bl_eq (px_v 4 (pv 4)) px_int (nomark _))))) (ss_one (s_ret (px_v 8 (pv 8)))) ss_nil)
      (ss_cons (s_set (i := 9) (.inr (by decide)) sc__law_row.nd rfl (by first | exact Or.inl rfl | exact Or.inr rfl) (px_callO 0 C__law_taken (hr.mono (by decide)) rfl rfl rfl rfl rfl tk (pv 0) (px_cons (px_v 4 (pv 4)) px_nil)))
      (ss_one (s_ret (px_bin o_add (s_add _) (px_bin o_add (s_add _) (px_sl rfl (px_v 8 (pv 8)) po_n (po_s (px_v 9 (pv 9)))) (px_tup (px_cons (px_callO 0 C__law_pick (hr.mono (by decide)) rfl rfl rfl rfl rfl tk (pv 0) (px_cons (px_v 3 (pv 3)) px_nil)) px_nil))) (px_sl rfl (px_v 8 (pv 8)) (po_s (px_bin o_add (s_add _) (px_v 9 (pv 9)) px_int)) po_n)))))))))))
abbrev ssize_of : Stmt := top 10
theorem sc_size_of : FnScope ["wheels", "found", "one"] ["wheels"] (defScope ssize_of) := ⟨rfl, rfl, rfl, by decide +kernel, rfl, by decide +kernel, by decide +kernel⟩
theorem ok_size_of {f : Addr} {fd : FuncData} (F : Fun K "size_of" "size_of" ssize_of f fd) (T : Txt mg)  : FnOk P w K mg base (L2.CX P w) 1 f fd ["wheels"] (spF P w K mg tb 1 true F_size_of) :=
  fn_d (g := g_size_of) F sc_size_of true fun cdv A outer s H E B pin xc hr hp tk => (ss_cons (s_set (i := 1) (.inl (hp rfl)) sc_size_of.nd rfl (by first | exact Or.inl rfl | exact Or.inr rfl) px_int)
      (ss_cons (s_for (passes_of rfl) rfl (i_seq rfl (px_v 0 (pv 0))) (g_n (i := 2) (.inl (hp rfl)) sc_size_of.nd rfl (by first | exact Or.inl rfl | exact Or.inr rfl)) (ss_one (s_augM (i := 1) (.inl (hp rfl)) sc_size_of.nd rfl (by first | exact Or.inl rfl | exact Or.inr rfl) (px_v 2 (pv 2)))))
      (ss_one (s_ret (px_v 1 (pv 1))))))
abbrev sis_number : Stmt := top 8
theorem sc_is_number : FnScope ["value", "low", "high"] ["value", "low", "high"] (defScope sis_number) := ⟨rfl, rfl, rfl, by decide +kernel, rfl, by decide +kernel, by decide +kernel⟩
theorem ok_is_number {f : Addr} {fd : FuncData} (F : Fun K "is_number" "is_number" sis_number f fd) (T : Txt mg)  : FnOk P w K mg base (L2.CX P w) 1 f fd ["value", "low", "high"] (spF P w K mg tb 3 true F_is_number) :=
  fn_d (g := g_is_number) F sc_is_number true fun cdv A outer s H E B pin xc hr hp tk => (ss_one (s_ret (px_and (px_callB call_isi (s_isi _) rfl T.b_isinstance (by decide +kernel) (px_cons (px_v 0 (pv 0)) (px_cons (px_op (v := .ty "int") (pe_bltn rfl T.b_int (by decide +kernel) rfl)) px_nil))) (px_and (px_notT rfl (px_callB call_isi (s_isi _) rfl T.b_isinstance (by decide +kernel) (px_cons (px_v 0 (pv 0)) (px_cons (px_op (v := .ty "bool") (pe_bltn rfl T.b_bool (by decide +kernel) rfl)) px_nil)))) (px_one (px_chain op_le (s_cmpI _ _) bl_cmpI op_le (s_cmpI _ _) (px_v 1 (pv 1)) (px_v 0 (pv 0)) (px_v 2 (pv 2)) r_cmpI))))))
abbrev sneed_wheels : Stmt := top 9
theorem sc_need_wheels : FnScope ["value", "index", "one"] ["value"] (defScope sneed_wheels) := ⟨rfl, rfl, rfl, by decide +kernel, rfl, by decide +kernel, by decide +kernel⟩
theorem ok_need_wheels {f : Addr} {fd : FuncData} (F : Fun K "need_wheels" "need_wheels" sneed_wheels f fd) (T : Txt mg) (C_size_of : Cal P w K mg base tb 1 "size_of" 1 true F_size_of) (C_is_number : Cal P w K mg base tb 1 "is_number" 3 true F_is_number) : FnOk P w K mg base (L2.CX P w) 2 f fd ["value"] (spF P w K mg tb 1 true F_need_wheels) :=
  fn_d (g := g_need_wheels) F sc_need_wheels true fun cdv A outer s H E B pin xc hr hp tk => (ss_cons (s_if (PW.pt (pw_or' (pt_not' (pt_x (px_callB call_isi (s_isi _) rfl T.b_isinstance (by decide +kernel) (px_cons (px_v 0 (pv 0)) (px_cons (px_op (v := .ty "tuple") (pe_bltn rfl T.b_tuple (by decide +kernel) rfl)) px_nil))))) (pw_one_or (pt_not' (pt_chainI op_le op_le px_int (px_callB c_len (s_len _) rfl T.b_len PySem.boot_len (px_cons (px_v 0 (pv 0)) px_nil)) (px_gl (pe_glob (v := .int 3) rfl (Classical.choose_spec T.c_MOST_WHEELS) ⟨_, rfl⟩) fun _ => .int _)))))) (ss_one s_dead) ss_nil)
      (ss_cons (s_for (passes_of rfl) rfl (i_enum rfl rfl T.b_enumerate (px_cons (px_v 0 (pv 0)) px_nil)) (g_tup rfl rfl (g_cons (g_n (i := 1) (.inl (hp rfl)) sc_need_wheels.nd rfl (by first | exact Or.inl rfl | exact Or.inr rfl)) (g_cons (g_n (i := 2) (.inl (hp rfl)) sc_need_wheels.nd rfl (by first | exact Or.inl rfl | exact Or.inr rfl)) g_nil))) (ss_one (s_if (pt_not' (pt_x (px_call C_is_number (hr.mono (by decide)) rfl rfl rfl rfl rfl tk (px_cons (px_v 2 (pv 2)) (px_cons px_int (px_cons (px_gl (pe_glob (v := .int 400) rfl (Classical.choose_spec T.c_MOST_PLACES) ⟨_, rfl⟩) fun _ => .int _) px_nil)))))) (ss_one s_dead) ss_nil)))
      (ss_one (s_if (pt_cmp' op_gt (s_cmpI _ _) bl_cmpI (px_call C_size_of (hr.mono (by decide)) rfl rfl rfl rfl rfl tk (px_cons (px_v 0 (pv 0)) px_nil)) (px_gl (pe_glob (v := .int 400) rfl (Classical.choose_spec T.c_MOST_PLACES) ⟨_, rfl⟩) fun _ => .int _) (nomark _)) (ss_one s_dead) ss_nil))))
abbrev sis_step : Stmt := top 11
theorem sc_is_step : FnScope ["wheels", "value"] ["wheels", "value"] (defScope sis_step) := ⟨rfl, rfl, rfl, by decide +kernel, rfl, by decide +kernel, by decide +kernel⟩
theorem ok_is_step {f c Pt fn : Addr} {fd : FuncData} (F : FunC K "is_step" "is_step" sis_step f fd c) (T : Txt mg) (TB : GxR.TabB base mg c Pt) (hPt : Pt ∈ tb) (NF : ∀ X : Cx, X.K = K → X.mg = mg → NumF X fn)  : FnOk P w K mg base (L2.CX P w) 2 f fd ["wheels", "value"] (spF P w K mg tb 2 true F_is_step) :=
  fn_dc (g := g_is_step) F sc_is_step true fun A outer s H E B pin xc hr hp tk => (ss_cons (s_if (PW.pt (pw_or' (pt_not' (pt_x (px_callB call_isi (s_isi _) rfl T.b_isinstance (by decide +kernel) (px_cons (px_v 1 (pv 1)) (px_cons (px_op (v := .ty "tuple") (pe_bltn rfl T.b_tuple (by decide +kernel) rfl)) px_nil))))) (pw_one_or (pt_cmp' (op_neD hr.units) (s_ne _) bl_eq (px_callB c_len (s_len _) rfl T.b_len PySem.boot_len (px_cons (px_v 1 (pv 1)) px_nil)) (px_callB c_len (s_len _) rfl T.b_len PySem.boot_len (px_cons (px_v 0 (pv 0)) px_nil)) (nomark _))))) (ss_one (s_ret px_bl)) ss_nil)
      (ss_one (s_ret (px_all2 hr rfl rfl rfl rfl T.b_all rfl T.b_zip TB rfl hPt ⟨rfl, rfl, by decide +kernel, rfl, rfl, rfl, by decide, (gfree (names := (defScope sis_step).names) (n := s.heap.objs.size + 1) (by decide +kernel))⟩ (px_cons (px_v 1 (pv 1)) (px_cons (px_v 0 (pv 0)) px_nil)) (el_num2 hr rfl (NF _ rfl rfl) ⟨rfl, rfl, by decide +kernel, rfl, rfl, rfl, by decide, (gfree (names := (defScope sis_step).names) (n := s.heap.objs.size + 1) (by decide +kernel))⟩ rfl) (by intro _; rfl)))))
abbrev sneed_row : Stmt := top 12
theorem sc_need_row : FnScope ["wheels", "value", "index", "step"] ["wheels", "value"] (defScope sneed_row) := ⟨rfl, rfl, rfl, by decide +kernel, rfl, by decide +kernel, by decide +kernel⟩
theorem ok_need_row {f : Addr} {fd : FuncData} (F : Fun K "need_row" "need_row" sneed_row f fd) (T : Txt mg) (C_is_step : Cal P w K mg base tb 2 "is_step" 2 true F_is_step) : FnOk P w K mg base (L2.CX P w) 3 f fd ["wheels", "value"] (spF P w K mg tb 2 true F_need_row) :=
  fn_d (g := g_need_row) F sc_need_row true fun cdv A outer s H E B pin xc hr hp tk => (ss_cons (s_if (PW.pt (pw_or' (pt_not' (pt_x (px_callB call_isi (s_isi _) rfl T.b_isinstance (by decide +kernel) (px_cons (px_v 1 (pv 1)) (px_cons (px_op (v := .ty "tuple") (pe_bltn rfl T.b_tuple (by decide +kernel) rfl)) px_nil))))) (pw_one_or (pt_cmp' op_gt (s_cmpI _ _) bl_cmpI (px_callB c_len (s_len _) rfl T.b_len PySem.boot_len (px_cons (px_v 1 (pv 1)) px_nil)) (px_gl (pe_glob (v := .int 40) rfl (Classical.choose_spec T.c_MOST_ROW) ⟨_, rfl⟩) fun _ => .int _) (nomark _))))) (ss_one s_dead) ss_nil)
      (ss_one (s_for (passes_of rfl) rfl (i_enum rfl rfl T.b_enumerate (px_cons (px_v 1 (pv 1)) px_nil)) (g_tup rfl rfl (g_cons (g_n (i := 2) (.inl (hp rfl)) sc_need_row.nd rfl (by first | exact Or.inl rfl | exact Or.inr rfl)) (g_cons (g_n (i := 3) (.inl (hp rfl)) sc_need_row.nd rfl (by first | exact Or.inl rfl | exact Or.inr rfl)) g_nil))) (ss_one (s_if (pt_not' (pt_x (px_call C_is_step (hr.mono (by decide)) rfl rfl rfl rfl rfl tk (px_cons (px_v 0 (pv 0)) (px_cons (px_v 3 (pv 3)) px_nil))))) (ss_one s_dead) ss_nil)))))
abbrev sall_steps : Stmt := top 17
theorem sc_all_steps : FnScope ["wheels", "found", "wheel", "step", "one"] ["wheels"] (defScope sall_steps) := ⟨rfl, rfl, rfl, by decide +kernel, rfl, by decide +kernel, by decide +kernel⟩
theorem ok_all_steps {f : Addr} {fd : FuncData} (F : Fun K "all_steps" "all_steps" sall_steps f fd) (T : Txt mg)  : FnOk P w K mg base (L2.CX P w) 1 f fd ["wheels"] (spF P w K mg tb 1 true F_all_steps) :=
  fn_d (g := g_all_steps) F sc_all_steps true fun cdv A outer s H E B pin xc hr hp tk => (ss_cons (s_set (i := 1) (.inl (hp rfl)) sc_all_steps.nd rfl (by first | exact Or.inl rfl | exact Or.inr rfl) (px_ofF (px_lstF (px_cons (px_tup px_nil) px_nil))))
      (ss_cons (s_for (passes_of rfl) rfl (i_seq rfl (px_v 0 (pv 0))) (g_n (i := 2) (.inl (hp rfl)) sc_all_steps.nd rfl (by first | exact Or.inl rfl | exact Or.inr rfl)) (ss_one (s_setLc2 (own := [("step", 3), ("one", 4)]) (i := 1) (.inl (hp rfl)) rfl sc_all_steps.nd rfl rfl (sw_true rfl rfl rfl (by decide +kernel)) (i_seq rfl (px_v 1 (pv 1))) (blkOk_by (N := ["wheels", "found", "wheel", "step", "one"]) (sc := defScope sall_steps) (by decide +kernel)) (fun _ _ _ _ _ _ => (g_n (i := 3) (.inl (hp rfl)) sc_all_steps.nd rfl (by first | exact Or.inl rfl | exact Or.inr rfl))) (fun _ _ _ _ _ _ => ts_nil) (fun _ _ _ _ _ _ => (i_range1 rfl T.b_range (px_cons (px_v 2 (pv 2)) px_nil))) (fun _ _ _ _ _ _ => (g_n (i := 4) (.inl (hp rfl)) sc_all_steps.nd rfl (by first | exact Or.inl rfl | exact Or.inr rfl))) (fun _ _ _ _ _ _ => ts_nil) (fun _ _ _ _ _ _ => (px_bin o_add (s_add _) (px_v 3 (pv 3)) (px_tup (px_cons (px_v 4 (pv 4)) px_nil)))) (by decide) (by decide) (by decide) (.inl (hp rfl)))))
      (ss_one (s_ret (px_v 1 (pv 1))))))
abbrev shome : Stmt := top 13
theorem sc_home : FnScope ["wheels"] ["wheels"] (defScope shome) := ⟨rfl, rfl, rfl, by decide +kernel, rfl, by decide +kernel, by decide +kernel⟩
theorem ok_home {f : Addr} {fd : FuncData} (F : Fun K "home" "home" shome f fd) (T : Txt mg)  : FnOk P w K mg base (L2.CX P w) 1 f fd ["wheels"] (spF P w K mg tb 1 true F_home) :=
  fn_d (g := g_home) F sc_home true fun cdv A outer s H E B pin xc hr hp tk => (ss_one (s_ret (px_callTy call_tuple_of (s_tuple _) rfl T.b_tuple boot_tuple (px_cons (px_bin o_mul2 (s_mul2 _) (px_ofF (px_lstF (px_cons px_int px_nil))) (px_callB c_len (s_len _) rfl T.b_len PySem.boot_len (px_cons (px_v 0 (pv 0)) px_nil))) px_nil))))
abbrev sadded : Stmt := top 14
theorem sc_added : FnScope ["wheels", "one", "other", "a", "b", "wheel"] ["wheels", "one", "other"] (defScope sadded) := ⟨rfl, rfl, rfl, by decide +kernel, rfl, by decide +kernel, by decide +kernel⟩
theorem ok_added {f : Addr} {fd : FuncData} (F : Fun K "added" "added" sadded f fd) (T : Txt mg)  : FnOk P w K mg base (L2.CX P w) 1 f fd ["wheels", "one", "other"] (spF P w K mg tb 3 true F_added) :=
  fn_d (g := g_added) F sc_added true fun cdv A outer s H E B pin xc hr hp tk => (ss_one (s_ret (px_callTy call_tuple_of (s_tuple _) rfl T.b_tuple boot_tuple (px_cons (px_ofF (px_lc (own := [("a", 3), ("b", 4), ("wheel", 5)]) rfl sc_added.nd (i_zip3 rfl rfl T.b_zip (px_cons (px_v 1 (pv 1)) (px_cons (px_v 2 (pv 2)) (px_cons (px_v 0 (pv 0)) px_nil)))) (blkOk_by (N := ["wheels", "one", "other", "a", "b", "wheel"]) (sc := defScope sadded) (by decide +kernel)) (fun _ _ _ _ _ _ => (g_tup rfl rfl (g_cons (g_n (i := 3) (.inl (hp rfl)) sc_added.nd rfl (by first | exact Or.inl rfl | exact Or.inr rfl)) (g_cons (g_n (i := 4) (.inl (hp rfl)) sc_added.nd rfl (by first | exact Or.inl rfl | exact Or.inr rfl)) (g_cons (g_n (i := 5) (.inl (hp rfl)) sc_added.nd rfl (by first | exact Or.inl rfl | exact Or.inr rfl)) g_nil))))) (fun _ _ _ _ _ _ => ts_nil) (fun _ _ _ _ _ _ => (px_bin op_modN (s_mod _) (px_bin o_add (s_add _) (px_v 3 (pv 3)) (px_v 4 (pv 4))) (px_v 5 (pv 5)))) (by decide) (.inl (hp rfl)))) px_nil))))
abbrev snumbers_by : Stmt := top 19
theorem sc_numbers_by : FnScope ["wheels", "row", "step", "places", "now", "many", "found", "one"] ["wheels", "row", "step"] (defScope snumbers_by) := ⟨rfl, rfl, rfl, by decide +kernel, rfl, by decide +kernel, by decide +kernel⟩
theorem ok_numbers_by {f : Addr} {fd : FuncData} (F : Fun K "numbers_by" "numbers_by" snumbers_by f fd) (T : Txt mg) (C_home : Cal P w K mg base tb 1 "home" 1 true F_home) (C_added : Cal P w K mg base tb 1 "added" 3 true F_added) : FnOk P w K mg base (L2.CX P w) 2 f fd ["wheels", "row", "step"] (spF P w K mg tb 3 true F_numbers_by) :=
  fn_d (g := g_numbers_by) F sc_numbers_by true fun cdv A outer s H E B pin xc hr hp tk => (ss_cons (s_par3K (i := 3) (j := 4) (l := 5) (.inl (hp rfl)) (.inl (hp rfl)) (.inl (hp rfl)) rfl rfl rfl sc_numbers_by.nd rfl rfl rfl (by first | exact Or.inl rfl | exact Or.inr rfl) (by first | exact Or.inl rfl | exact Or.inr rfl) (by first | exact Or.inl rfl | exact Or.inr rfl) (fun _ => (px_cons (px_v 2 (pv 2)) (px_cons px_int px_nil))) (fun h1 h2 => ps_asg h1 h2) (fun h => pg_tup rfl h) (hK := rfl))
      (ss_cons (s_while 1000 (passes_of rfl) (pt_cmp' (op_neD hr.units) (s_ne _) bl_eq (px_v 4 (pv 4)) (px_call C_home (hr.mono (by decide)) rfl rfl rfl rfl rfl tk (px_cons (px_v 0 (pv 0)) px_nil)) (nomark _)) (ss_cons (s_putK 3 hr rfl rfl rfl (pv 3) (px_v 4 (pv 4)) (px_v 5 (pv 5)))
      (ss_one (s_par (i := 4) (j := 5) (.inl (hp rfl)) (.inl (hp rfl)) rfl sc_numbers_by.nd rfl rfl (by decide) rfl rfl (px_cons (px_call C_added (hr.mono (by decide)) rfl rfl rfl rfl rfl tk (px_cons (px_v 0 (pv 0)) (px_cons (px_v 4 (pv 4)) (px_cons (px_v 2 (pv 2)) px_nil)))) (px_cons (px_bin o_add (s_add _) (px_v 5 (pv 5)) px_int) px_nil)) (fun _ h => ps_par rfl sc_numbers_by.nd rfl rfl (by decide) rfl rfl h (by rfl))))))
      (ss_cons (s_frzK 3 (s_setLc (own := [("one", 7)]) (i := 6) (.inl (hp rfl)) rfl sc_numbers_by.nd rfl rfl (sw_true rfl rfl rfl (by decide +kernel)) (i_seq rfl (px_v 1 (pv 1))) (blkOk_by (N := ["wheels", "row", "step", "places", "now", "many", "found", "one"]) (sc := defScope snumbers_by) (by decide +kernel)) (fun _ _ _ _ _ _ => (g_n (i := 7) (.inl (hp rfl)) sc_numbers_by.nd rfl (by first | exact Or.inl rfl | exact Or.inr rfl))) (fun _ _ _ _ _ _ => ts_nil) (fun _ _ _ _ _ _ => (px_get1 hr rfl rfl rfl (px_v 3 (pv 3)) (px_v 7 (pv 7)))) (by decide) (.inl (hp rfl))))
      (ss_one (s_ret (px_if (pt_cmp' (o_inS (room65 hr)) (s_inS _ false) bl_in px_non (px_v 6 (pv 6)) rfl) px_non (px_callTy call_tuple_of (s_tuple _) rfl T.b_tuple boot_tuple (px_cons (px_v 6 (pv 6)) px_nil))))))))
abbrev sorder_of : Stmt := top 16
theorem sc_order_of : FnScope ["wheels", "step", "many", "now"] ["wheels", "step"] (defScope sorder_of) := ⟨rfl, rfl, rfl, by decide +kernel, rfl, by decide +kernel, by decide +kernel⟩
theorem ok_order_of {f : Addr} {fd : FuncData} (F : Fun K "order_of" "order_of" sorder_of f fd) (T : Txt mg) (C_home : Cal P w K mg base tb 1 "home" 1 true F_home) (C_added : Cal P w K mg base tb 1 "added" 3 true F_added) : FnOk P w K mg base (L2.CX P w) 2 f fd ["wheels", "step"] (spF P w K mg tb 2 true F_order_of) :=
  fn_d (g := g_order_of) F sc_order_of true fun cdv A outer s H E B pin xc hr hp tk => (ss_cons (s_par (i := 2) (j := 3) (.inl (hp rfl)) (.inl (hp rfl)) rfl sc_order_of.nd rfl rfl (by decide) rfl rfl (px_cons px_int (px_cons (px_v 1 (pv 1)) px_nil)) (fun _ h => ps_par rfl sc_order_of.nd rfl rfl (by decide) rfl rfl h (by rfl)))
      (ss_cons (s_while 1000 (passes_of rfl) (pt_cmp' (op_neD hr.units) (s_ne _) bl_eq (px_v 3 (pv 3)) (px_call C_home (hr.mono (by decide)) rfl rfl rfl rfl rfl tk (px_cons (px_v 0 (pv 0)) px_nil)) (nomark _)) (ss_one (s_par (i := 2) (j := 3) (.inl (hp rfl)) (.inl (hp rfl)) rfl sc_order_of.nd rfl rfl (by decide) rfl rfl (px_cons (px_bin o_add (s_add _) (px_v 2 (pv 2)) px_int) (px_cons (px_call C_added (hr.mono (by decide)) rfl rfl rfl rfl rfl tk (px_cons (px_v 0 (pv 0)) (px_cons (px_v 3 (pv 3)) (px_cons (px_v 1 (pv 1)) px_nil)))) px_nil)) (fun _ h => ps_par rfl sc_order_of.nd rfl rfl (by decide) rfl rfl h (by rfl)))))
      (ss_one (s_ret (px_v 2 (pv 2))))))
abbrev stellers_of : Stmt := top 20
theorem sc_tellers_of : FnScope ["wheels", "row", "found", "step", "numbers"] ["wheels", "row"] (defScope stellers_of) := ⟨rfl, rfl, rfl, by decide +kernel, rfl, by decide +kernel, by decide +kernel⟩
theorem ok_tellers_of {f : Addr} {fd : FuncData} (F : Fun K "tellers_of" "tellers_of" stellers_of f fd) (T : Txt mg) (C_all_steps : Cal P w K mg base tb 1 "all_steps" 1 true F_all_steps) (C_numbers_by : Cal P w K mg base tb 2 "numbers_by" 3 true F_numbers_by) (C_order_of : Cal P w K mg base tb 2 "order_of" 2 true F_order_of) : FnOk P w K mg base (L2.CX P w) 3 f fd ["wheels", "row"] (spF P w K mg tb 2 true F_tellers_of) :=
  fn_d (g := g_tellers_of) F sc_tellers_of true fun cdv A outer s H E B pin xc hr hp tk => (ss_cons (s_own (i := 2) (.inl (hp rfl)) sc_tellers_of.nd rfl (by first | exact Or.inl rfl | exact Or.inr rfl) (px_lstF px_nil))
      (ss_cons (s_for (passes_of rfl) rfl (i_seq rfl (px_call C_all_steps (hr.mono (by decide)) rfl rfl rfl rfl rfl tk (px_cons (px_v 0 (pv 0)) px_nil))) (g_n (i := 3) (.inl (hp rfl)) sc_tellers_of.nd rfl (by first | exact Or.inl rfl | exact Or.inr rfl)) (ss_cons (s_set (i := 4) (.inl (hp rfl)) sc_tellers_of.nd rfl (by first | exact Or.inl rfl | exact Or.inr rfl) (px_call C_numbers_by (hr.mono (by decide)) rfl rfl rfl rfl rfl tk (px_cons (px_v 0 (pv 0)) (px_cons (px_v 1 (pv 1)) (px_cons (px_v 3 (pv 3)) px_nil)))))
      (ss_one (s_if (PW.pt (pw_and' (pt_cmp' op_notN (s_notN _) bl_isN (px_v 4 (pv 4)) px_non (nomark _)) (pw_one_and (pt_cmp' op_lt (s_cmpI _ _) bl_cmpI (px_callB (c_sum rfl) (s_sum _) rfl T.b_sum (by decide +kernel) (px_cons (px_v 4 (pv 4)) px_nil)) (px_call C_order_of (hr.mono (by decide)) rfl rfl rfl rfl rfl tk (px_cons (px_v 0 (pv 0)) (px_cons (px_v 3 (pv 3)) px_nil))) (nomark _))))) (ss_one (s_app 2 (pv 2) (px_tup (px_cons (px_v 3 (pv 3)) (px_cons (px_v 4 (pv 4)) px_nil))))) ss_nil))))
      (ss_one (s_frz 2 (s_ret (px_v 2 (pv 2)))))))
abbrev steller : Stmt := top 21
theorem sc_teller : FnScope ["wheels", "row", "found"] ["wheels", "row"] (defScope steller) := ⟨rfl, rfl, rfl, by decide +kernel, rfl, by decide +kernel, by decide +kernel⟩
theorem ok_teller {f : Addr} {fd : FuncData} (F : Fun K "teller" "teller" steller f fd) (T : Txt mg) (C_need_wheels : Cal P w K mg base tb 2 "need_wheels" 1 true F_need_wheels) (C_need_row : Cal P w K mg base tb 3 "need_row" 2 true F_need_row) (C_tellers_of : Cal P w K mg base tb 3 "tellers_of" 2 true F_tellers_of) : FnOk P w K mg base (L2.CX P w) 4 f fd ["wheels", "row"] (spF P w K mg tb 2 true F_teller) :=
  fn_d (g := g_teller) F sc_teller true fun cdv A outer s H E B pin xc hr hp tk => (ss_cons (s_expr (px_call C_need_wheels (hr.mono (by decide)) rfl rfl rfl rfl rfl tk (px_cons (px_v 0 (pv 0)) px_nil)))
      (ss_cons (s_expr (px_call C_need_row (hr.mono (by decide)) rfl rfl rfl rfl rfl tk (px_cons (px_v 0 (pv 0)) (px_cons (px_v 1 (pv 1)) px_nil))))
      (ss_cons (s_set (i := 2) (.inl (hp rfl)) sc_teller.nd rfl (by first | exact Or.inl rfl | exact Or.inr rfl) (px_call C_tellers_of (hr.mono (by decide)) rfl rfl rfl rfl rfl tk (px_cons (px_v 0 (pv 0)) (px_cons (px_v 1 (pv 1)) px_nil))))
      (ss_one (s_ret (px_if (pt_tru rfl (px_v 2 (pv 2))) (px_ix ix_seq (s_ix _) (px_v 2 (pv 2)) px_int (fun _ _ => rfl)) px_non))))))
abbrev s_law_added : Stmt := top 36
theorem sc__law_added : FnScope ["_law_wheels_here", "_law_one", "_law_other", "_law_at"] ["_law_wheels_here", "_law_one", "_law_other"] (defScope s_law_added) := ⟨rfl, rfl, rfl, by decide +kernel, rfl, by decide +kernel, by decide +kernel⟩
theorem ok__law_added {f : Addr} {fd : FuncData} (F : Fun K "_law_added" "_law_added" s_law_added f fd) (T : Txt mg)  : FnOk P w K mg base (L2.CX P w) 1 f fd ["_law_wheels_here", "_law_one", "_law_other"] (spF P w K mg tb 3 true F__law_added) :=
  fn_d (g := g__law_added) F sc__law_added true fun cdv A outer s H E B pin xc hr hp tk => (ss_one (s_ret (px_callTy call_tuple_of (s_tuple _) rfl T.b_tuple boot_tuple (px_cons (px_ofF (px_lc (own := [("_law_at", 3)]) rfl sc__law_added.nd (i_range1 rfl T.b_range (px_cons (px_callB c_len (s_len _) rfl T.b_len PySem.boot_len (px_cons (px_v 0 (pv 0)) px_nil)) px_nil)) (blkOk_by (N := ["_law_wheels_here", "_law_one", "_law_other", "_law_at"]) (sc := defScope s_law_added) (by decide +kernel)) (fun _ _ _ _ _ _ => (g_n (i := 3) (.inl (hp rfl)) sc__law_added.nd rfl (by first | exact Or.inl rfl | exact Or.inr rfl))) (fun _ _ _ _ _ _ => ts_nil) (fun _ _ _ _ _ _ => (px_bin op_modN (s_mod _) (px_bin o_add (s_add _) (px_ix ix_seq (s_ix _) (px_v 1 (pv 1)) (px_v 3 (pv 3)) (fun _ _ => rfl)) (px_ix ix_seq (s_ix _) (px_v 2 (pv 2)) (px_v 3 (pv 3)) (fun _ _ => rfl))) (px_ix ix_seq (s_ix _) (px_v 0 (pv 0)) (px_v 3 (pv 3)) (fun _ _ => rfl)))) (by decide) (.inl (hp rfl)))) px_nil))))
abbrev s_law_sums : Stmt := top 38
theorem sc__law_sums : FnScope ["_law_wheels_here", "_law_row_here", "_law_found", "_law_step", "_law_one"] ["_law_wheels_here", "_law_row_here"] (defScope s_law_sums) := ⟨rfl, rfl, rfl, by decide +kernel, rfl, by decide +kernel, by decide +kernel⟩
theorem ok__law_sums {f : Addr} {fd : FuncData} (F : Fun K "_law_sums" "_law_sums" s_law_sums f fd) (T : Txt mg) (C__law_added : Cal P w K mg base tb 1 "_law_added" 3 true F__law_added) : FnOk P w K mg base (L2.CX P w) 2 f fd ["_law_wheels_here", "_law_row_here"] (spF P w K mg tb 2 true F__law_sums) :=
  fn_d (g := g__law_sums) F sc__law_sums true fun cdv A outer s H E B pin xc hr hp tk => (ss_cons (s_set (i := 2) (.inl (hp rfl)) sc__law_sums.nd rfl (by first | exact Or.inl rfl | exact Or.inr rfl) (px_ofF (px_lstF px_nil)))
      (ss_cons (s_for (passes_of rfl) rfl (i_seq rfl (px_v 1 (pv 1))) (g_n (i := 3) (.inl (hp rfl)) sc__law_sums.nd rfl (by first | exact Or.inl rfl | exact Or.inr rfl)) (ss_one (s_set (i := 2) (.inl (hp rfl)) sc__law_sums.nd rfl (by first | exact Or.inl rfl | exact Or.inr rfl) (px_ofF (px_srtSetF hr rfl rfl rfl rfl rfl T.b_sorted rfl T.b_set (px_bin o_add (s_add _) (px_bin o_add (s_add _) (px_v 2 (pv 2)) (px_ofF (px_lstF (px_cons (px_v 3 (pv 3)) px_nil)))) (px_ofF (px_lc (own := [("_law_one", 4)]) rfl sc__law_sums.nd (i_seq rfl (px_v 2 (pv 2))) (blkOk_by (N := ["_law_wheels_here", "_law_row_here", "_law_found", "_law_step", "_law_one"]) (sc := defScope s_law_sums) (by decide +kernel)) (fun _ _ _ _ _ _ => (g_n (i := 4) (.inl (hp rfl)) sc__law_sums.nd rfl (by first | exact Or.inl rfl | exact Or.inr rfl))) (fun _ _ _ _ _ _ => ts_nil) (fun _ _ _ _ _ _ => (px_call C__law_added (hr.mono (by decide)) rfl rfl rfl rfl rfl takes0 (px_cons (px_v 0 (pv 0)) (px_cons (px_v 4 (pv 4)) (px_cons (px_v 3 (pv 3)) px_nil))))) (by decide) (.inl (hp rfl))))))))))
      (ss_one (s_ret (px_v 2 (pv 2))))))
abbrev s_law_home : Stmt := top 37
theorem sc__law_home : FnScope ["_law_wheels_here"] ["_law_wheels_here"] (defScope s_law_home) := ⟨rfl, rfl, rfl, by decide +kernel, rfl, by decide +kernel, by decide +kernel⟩
theorem ok__law_home {f : Addr} {fd : FuncData} (F : Fun K "_law_home" "_law_home" s_law_home f fd) (T : Txt mg)  : FnOk P w K mg base (L2.CX P w) 1 f fd ["_law_wheels_here"] (spF P w K mg tb 1 true F__law_home) :=
  fn_d (g := g__law_home) F sc__law_home true fun cdv A outer s H E B pin xc hr hp tk => (ss_one (s_ret (px_bin o_mul2 (s_mul2 _) (px_tup (px_cons px_int px_nil)) (px_callB c_len (s_len _) rfl T.b_len PySem.boot_len (px_cons (px_v 0 (pv 0)) px_nil)))))
abbrev s_law_alike : Stmt := top 35
theorem sc__law_alike : FnScope ["_law_found", "_law_due", "_law_k"] ["_law_found", "_law_due"] (defScope s_law_alike) := ⟨rfl, rfl, rfl, by decide +kernel, rfl, by decide +kernel, by decide +kernel⟩
theorem ok__law_alike {f : Addr} {fd : FuncData} (F : Fun K "_law_alike" "_law_alike" s_law_alike f fd) (T : Txt mg) (hmg : mg "_law_alike" = some (.ref f)) (hb : Binds K fd ["_law_found", "_law_due"] [])  : ∀ n : Nat, FnOk P w K mg base (L2.CX P w) (n + 1) f fd ["_law_found", "_law_due"] (spF P w K mg tb 2 true (G__law_alike n))
  | 0 => ok_stuck
  | n + 1 => by
    have C__law_alike : Cal P w K mg base tb (n + 1) "_law_alike" 2 true (G__law_alike n) := ⟨⟨f, fd, ["_law_found", "_law_due"], ok__law_alike F T hmg hb  n, hmg, F.kp, hb⟩⟩
    exact fn_d (g := g__law_alike (G__law_alike n)) F sc__law_alike true fun cdv A outer s H E B pin xc hr hp tk => (ss_cons (s_if (pt_x (px_isi2 rfl T.b_isinstance rfl T.b_tuple rfl T.b_list rfl (px_v 1 (pv 1)))) (ss_cons (s_if (PW.pt (pw_or' (pt_not' (pt_x (px_isi2 rfl T.b_isinstance rfl T.b_tuple rfl T.b_list rfl (px_v 0 (pv 0))))) (pw_one_or (pt_cmp' (op_neD hr.units) (s_ne _) bl_eq (px_callB call_isi (s_isi _) rfl T.b_isinstance (by decide +kernel) (px_cons (px_v 0 (pv 0)) (px_cons (px_op (v := .ty "list") (pe_bltn rfl T.b_list (by decide +kernel) rfl)) px_nil))) (px_callB call_isi (s_isi _) rfl T.b_isinstance (by decide +kernel) (px_cons (px_v 1 (pv 1)) (px_cons (px_op (v := .ty "list") (pe_bltn rfl T.b_list (by decide +kernel) rfl)) px_nil))) (nomark _))))) (ss_one (s_ret px_bl)) ss_nil)
      (ss_cons (s_if (pt_cmp' (op_neD hr.units) (s_ne _) bl_eq (px_callB c_len (s_len _) rfl T.b_len PySem.boot_len (px_cons (px_v 0 (pv 0)) px_nil)) (px_callB c_len (s_len _) rfl T.b_len PySem.boot_len (px_cons (px_v 1 (pv 1)) px_nil)) (nomark _)) (ss_one (s_ret px_bl)) ss_nil)
      (ss_one (s_ret (px_cmp (op_eqD hr.units) (s_eq _) (px_ofF (px_lc (own := [("_law_k", 2)]) rfl sc__law_alike.nd (i_range1 rfl T.b_range (px_cons (px_callB c_len (s_len _) rfl T.b_len PySem.boot_len (px_cons (px_v 1 (pv 1)) px_nil)) px_nil)) (blkOk_by (N := ["_law_found", "_law_due", "_law_k"]) (sc := defScope s_law_alike) (by decide +kernel)) (fun _ _ _ _ _ _ => (g_n (i := 2) (.inl (hp rfl)) sc__law_alike.nd rfl (by first | exact Or.inl rfl | exact Or.inr rfl))) (fun _ _ _ _ _ _ => (ts_one (pt_not' (pt_x (px_call C__law_alike (hr.mono (by omega)) rfl rfl rfl rfl rfl takes0 (px_cons (px_ix ix_seq (s_ix _) (px_v 0 (pv 0)) (px_v 2 (pv 2)) (fun _ _ => rfl)) (px_cons (px_ix ix_seq (s_ix _) (px_v 1 (pv 1)) (px_v 2 (pv 2)) (fun _ _ => rfl)) px_nil))))))) (fun _ _ _ _ _ _ => (px_v 2 (pv 2))) (by decide) (.inl (hp rfl)))) (px_ofF (px_lstF px_nil)) (nomark _)))))) ss_nil)
      (ss_cons (s_if (PW.pt (pw_or' (pt_cmp' op_isN (s_isN _) bl_isN (px_v 1 (pv 1)) px_non (nomark _)) (pw_one_or (pt_x (px_callB call_isi (s_isi _) rfl T.b_isinstance (by decide +kernel) (px_cons (px_v 1 (pv 1)) (px_cons (px_op (v := .ty "str") (pe_bltn rfl T.b_str (by decide +kernel) rfl)) px_nil))))))) (ss_one (s_ret (px_and (px_cmp (op_eqD hr.units) (s_eq _) (px_v 0 (pv 0)) (px_v 1 (pv 1)) (nomark _)) (px_one (px_cmp (op_eqD hr.units) (s_eq _) (px_callB call_isi (s_isi _) rfl T.b_isinstance (by decide +kernel) (px_cons (px_v 0 (pv 0)) (px_cons (px_op (v := .ty "str") (pe_bltn rfl T.b_str (by decide +kernel) rfl)) px_nil))) (px_callB call_isi (s_isi _) rfl T.b_isinstance (by decide +kernel) (px_cons (px_v 1 (pv 1)) (px_cons (px_op (v := .ty "str") (pe_bltn rfl T.b_str (by decide +kernel) rfl)) px_nil))) (nomark _)))))) ss_nil)
      (ss_one (s_ret (px_and (px_callB call_isi (s_isi _) rfl T.b_isinstance (by decide +kernel) (px_cons (px_v 0 (pv 0)) (px_cons (px_op (v := .ty "int") (pe_bltn rfl T.b_int (by decide +kernel) rfl)) px_nil))) (px_and (px_cmp (op_eqD hr.units) (s_eq _) (px_callB call_isi (s_isi _) rfl T.b_isinstance (by decide +kernel) (px_cons (px_v 0 (pv 0)) (px_cons (px_op (v := .ty "bool") (pe_bltn rfl T.b_bool (by decide +kernel) rfl)) px_nil))) (px_callB call_isi (s_isi _) rfl T.b_isinstance (by decide +kernel) (px_cons (px_v 1 (pv 1)) (px_cons (px_op (v := .ty "bool") (pe_bltn rfl T.b_bool (by decide +kernel) rfl)) px_nil))) (nomark _)) (px_one (px_cmp (op_eqD hr.units) (s_eq _) (px_v 0 (pv 0)) (px_v 1 (pv 1)) (nomark _)))))))))
abbrev sfew_of : Stmt := top 24
theorem sc_few_of : FnScope ["wheels", "row", "step", "numbers"] ["wheels", "row"] (defScope sfew_of) := ⟨rfl, rfl, rfl, by decide +kernel, rfl, by decide +kernel, by decide +kernel⟩
theorem ok_few_of {f : Addr} {fd : FuncData} (F : Fun K "few_of" "few_of" sfew_of f fd) (T : Txt mg) (C_tellers_of : Cal P w K mg base tb 3 "tellers_of" 2 true F_tellers_of) : FnOk P w K mg base (L2.CX P w) 4 f fd ["wheels", "row"] (spF P w K mg tb 2 true F_few_of) :=
  fn_d (g := g_few_of) F sc_few_of true fun cdv A outer s H E B pin xc hr hp tk => (ss_cons (s_for (passes_of rfl) rfl (i_seq rfl (px_call C_tellers_of (hr.mono (by decide)) rfl rfl rfl rfl rfl tk (px_cons (px_v 0 (pv 0)) (px_cons (px_v 1 (pv 1)) px_nil)))) (g_tup rfl rfl (g_cons (g_n (i := 2) (.inl (hp rfl)) sc_few_of.nd rfl (by first | exact Or.inl rfl | exact Or.inr rfl)) (g_cons (g_n (i := 3) (.inl (hp rfl)) sc_few_of.nd rfl (by first | exact Or.inl rfl | exact Or.inr rfl)) g_nil))) (ss_one (s_if (pt_cmp' op_le (s_cmpI _ _) bl_cmpI (px_callB (c_sum rfl) (s_sum _) rfl T.b_sum (by decide +kernel) (px_cons (px_v 3 (pv 3)) px_nil)) (px_bin op_sub (s_sub _) (px_bin o_mul2 (s_mul2 _) px_int (px_callB c_len (s_len _) rfl T.b_len PySem.boot_len (px_cons (px_v 1 (pv 1)) px_nil))) px_int) (nomark _)) (ss_one (s_ret (px_tup (px_cons (px_v 2 (pv 2)) (px_cons (px_v 3 (pv 3)) px_nil))))) ss_nil)))
      (ss_one (s_ret px_non)))
abbrev sfew_teller : Stmt := top 25
theorem sc_few_teller : FnScope ["wheels", "row"] ["wheels", "row"] (defScope sfew_teller) := ⟨rfl, rfl, rfl, by decide +kernel, rfl, by decide +kernel, by decide +kernel⟩
theorem ok_few_teller {f : Addr} {fd : FuncData} (F : Fun K "few_teller" "few_teller" sfew_teller f fd) (T : Txt mg) (C_need_wheels : Cal P w K mg base tb 2 "need_wheels" 1 true F_need_wheels) (C_need_row : Cal P w K mg base tb 3 "need_row" 2 true F_need_row) (C_few_of : Cal P w K mg base tb 4 "few_of" 2 true F_few_of) : FnOk P w K mg base (L2.CX P w) 5 f fd ["wheels", "row"] (spF P w K mg tb 2 true F_few_teller) :=
  fn_d (g := g_few_teller) F sc_few_teller true fun cdv A outer s H E B pin xc hr hp tk => (ss_cons (s_expr (px_call C_need_wheels (hr.mono (by decide)) rfl rfl rfl rfl rfl tk (px_cons (px_v 0 (pv 0)) px_nil)))
      (ss_cons (s_expr (px_call C_need_row (hr.mono (by decide)) rfl rfl rfl rfl rfl tk (px_cons (px_v 0 (pv 0)) (px_cons (px_v 1 (pv 1)) px_nil))))
      (ss_one (s_ret (px_call C_few_of (hr.mono (by decide)) rfl rfl rfl rfl rfl tk (px_cons (px_v 0 (pv 0)) (px_cons (px_v 1 (pv 1)) px_nil)))))))
abbrev s_law_order : Stmt := top 41
theorem sc__law_order : FnScope ["_law_wheels_here", "_law_step", "_law_many", "_law_now"] ["_law_wheels_here", "_law_step"] (defScope s_law_order) := ⟨rfl, rfl, rfl, by decide +kernel, rfl, by decide +kernel, by decide +kernel⟩
theorem ok__law_order {f : Addr} {fd : FuncData} (F : Fun K "_law_order" "_law_order" s_law_order f fd) (T : Txt mg) (C__law_home : Cal P w K mg base tb 1 "_law_home" 1 true F__law_home) (C__law_added : Cal P w K mg base tb 1 "_law_added" 3 true F__law_added) : FnOk P w K mg base (L2.CX P w) 2 f fd ["_law_wheels_here", "_law_step"] (spF P w K mg tb 2 true F__law_order) :=
  fn_d (g := g__law_order) F sc__law_order true fun cdv A outer s H E B pin xc hr hp tk => (ss_cons (s_par (i := 2) (j := 3) (.inl (hp rfl)) (.inl (hp rfl)) rfl sc__law_order.nd rfl rfl (by decide) rfl rfl (px_cons px_int (px_cons (px_v 1 (pv 1)) px_nil)) (fun _ h => ps_par rfl sc__law_order.nd rfl rfl (by decide) rfl rfl h (by rfl)))
      (ss_cons (s_while 1000 (passes_of rfl) (pt_cmp' (op_neD hr.units) (s_ne _) bl_eq (px_v 3 (pv 3)) (px_call C__law_home (hr.mono (by decide)) rfl rfl rfl rfl rfl tk (px_cons (px_v 0 (pv 0)) px_nil)) (nomark _)) (ss_one (s_par (i := 2) (j := 3) (.inl (hp rfl)) (.inl (hp rfl)) rfl sc__law_order.nd rfl rfl (by decide) rfl rfl (px_cons (px_bin o_add (s_add _) (px_v 2 (pv 2)) px_int) (px_cons (px_call C__law_added (hr.mono (by decide)) rfl rfl rfl rfl rfl tk (px_cons (px_v 0 (pv 0)) (px_cons (px_v 3 (pv 3)) (px_cons (px_v 1 (pv 1)) px_nil)))) px_nil)) (fun _ h => ps_par rfl sc__law_order.nd rfl rfl (by decide) rfl rfl h (by rfl)))))
      (ss_one (s_ret (px_v 2 (pv 2))))))
abbrev s_law_tellers : Stmt := top 44
theorem sc__law_tellers : FnScope ["_law_wheels_here", "_law_row_here", "_law_found", "_law_step", "_law_most", "_law_places", "_law_number", "_law_one", "_law_numbers"] ["_law_wheels_here", "_law_row_here"] (defScope s_law_tellers) := ⟨rfl, rfl, rfl, by decide +kernel, rfl, by decide +kernel, by decide +kernel⟩
theorem ok__law_tellers {f : Addr} {fd : FuncData} (F : Fun K "_law_tellers" "_law_tellers" s_law_tellers f fd) (T : Txt mg) (C__law_steps : Cal P w K mg base tb 1 "_law_steps" 1 true F__law_steps) (C__law_order : Cal P w K mg base tb 2 "_law_order" 2 true F__law_order) (C__law_times : Cal P w K mg base tb 1 "_law_times" 3 true F__law_times) : FnOk P w K mg base (L2.CX P w) 3 f fd ["_law_wheels_here", "_law_row_here"] (spF P w K mg tb 2 true F__law_tellers) :=
  fn_d (g := g__law_tellers) F sc__law_tellers true fun cdv A outer s H E B pin xc hr hp tk => (ss_cons (s_own (i := 2) (.inl (hp rfl)) sc__law_tellers.nd rfl (by first | exact Or.inl rfl | exact Or.inr rfl) (px_lstF px_nil))
      (ss_cons (s_for (passes_of rfl) rfl (i_seq rfl (px_call C__law_steps (hr.mono (by decide)) rfl rfl rfl rfl rfl tk (px_cons (px_v 0 (pv 0)) px_nil))) (g_n (i := 3) (.inl (hp rfl)) sc__law_tellers.nd rfl (by first | exact Or.inl rfl | exact Or.inr rfl)) (ss_cons (s_set (i := 4) (.inl (hp rfl)) sc__law_tellers.nd rfl (by first | exact Or.inl rfl | exact Or.inr rfl) (px_call C__law_order (hr.mono (by decide)) rfl rfl rfl rfl rfl tk (px_cons (px_v 0 (pv 0)) (px_cons (px_v 3 (pv 3)) px_nil))))
      (ss_cons (s_set (i := 5) (.inl (hp rfl)) sc__law_tellers.nd rfl (by first | exact Or.inl rfl | exact Or.inr rfl) (px_ofF (px_lc (own := [("_law_number", 6)]) rfl sc__law_tellers.nd (i_range2 rfl T.b_range (px_cons px_int (px_cons (px_v 4 (pv 4)) px_nil))) (blkOk_by (N := ["_law_wheels_here", "_law_row_here", "_law_found", "_law_step", "_law_most", "_law_places", "_law_number", "_law_one", "_law_numbers"]) (sc := defScope s_law_tellers) (by decide +kernel)) (fun _ _ _ _ _ _ => (g_n (i := 6) (.inl (hp rfl)) sc__law_tellers.nd rfl (by first | exact Or.inl rfl | exact Or.inr rfl))) (fun _ _ _ _ _ _ => ts_nil) (fun _ _ _ _ _ _ => (px_call C__law_times (hr.mono (by decide)) rfl rfl rfl rfl rfl takes0 (px_cons (px_v 0 (pv 0)) (px_cons (px_v 3 (pv 3)) (px_cons (px_v 6 (pv 6)) px_nil))))) (by decide) (.inl (hp rfl)))))
      (ss_one (s_if (pt_cmp' (op_eqD hr.units) (s_eq _) bl_eq (px_ofF (px_lc (own := [("_law_one", 7)]) rfl sc__law_tellers.nd (i_seq rfl (px_v 1 (pv 1))) (blkOk_by (N := ["_law_wheels_here", "_law_row_here", "_law_found", "_law_step", "_law_most", "_law_places", "_law_number", "_law_one", "_law_numbers"]) (sc := defScope s_law_tellers) (by decide +kernel)) (fun _ _ _ _ _ _ => (g_n (i := 7) (.inl (hp rfl)) sc__law_tellers.nd rfl (by first | exact Or.inl rfl | exact Or.inr rfl))) (fun _ _ _ _ _ _ => (ts_one (pt_cmp' (o_notInS (room65 hr)) (s_inS _ true) bl_in (px_v 7 (pv 7)) (px_v 5 (pv 5)) rfl))) (fun _ _ _ _ _ _ => (px_v 7 (pv 7))) (by decide) (.inl (hp rfl)))) (px_ofF (px_lstF px_nil)) (nomark _)) (ss_cons (s_set (i := 8) (.inl (hp rfl)) sc__law_tellers.nd rfl (by first | exact Or.inl rfl | exact Or.inr rfl) (px_callTy call_tuple_of (s_tuple _) rfl T.b_tuple boot_tuple (px_cons (px_ofF (px_lc (own := [("_law_one", 7)]) rfl sc__law_tellers.nd (i_seq rfl (px_v 1 (pv 1))) (blkOk_by (N := ["_law_wheels_here", "_law_row_here", "_law_found", "_law_step", "_law_most", "_law_places", "_law_number", "_law_one", "_law_numbers"]) (sc := defScope s_law_tellers) (by decide +kernel)) (fun _ _ _ _ _ _ => (g_n (i := 7) (.inl (hp rfl)) sc__law_tellers.nd rfl (by first | exact Or.inl rfl | exact Or.inr rfl))) (fun _ _ _ _ _ _ => ts_nil) (fun _ _ _ _ _ _ => (px_bin o_add (s_add _) px_int (px_index (room65 hr) rfl (px_v 5 (pv 5)) (px_v 7 (pv 7))))) (by decide) (.inl (hp rfl)))) px_nil)))
      (ss_one (s_if (pt_cmp' op_lt (s_cmpI _ _) bl_cmpI (px_callB (c_sum rfl) (s_sum _) rfl T.b_sum (by decide +kernel) (px_cons (px_v 8 (pv 8)) px_nil)) (px_v 4 (pv 4)) (nomark _)) (ss_one (s_app 2 (pv 2) (px_tup (px_cons (px_v 3 (pv 3)) (px_cons (px_v 8 (pv 8)) px_nil))))) ss_nil))) ss_nil)))))
      (ss_one (s_frz 2 (s_ret (px_v 2 (pv 2)))))))
abbrev shas_few : Stmt := top 26
theorem sc_has_few : FnScope ["wheels", "row"] ["wheels", "row"] (defScope shas_few) := ⟨rfl, rfl, rfl, by decide +kernel, rfl, by decide +kernel, by decide +kernel⟩
theorem ok_has_few {f : Addr} {fd : FuncData} (F : Fun K "has_few" "has_few" shas_few f fd) (T : Txt mg) (C_need_wheels : Cal P w K mg base tb 2 "need_wheels" 1 true F_need_wheels) (C_need_row : Cal P w K mg base tb 3 "need_row" 2 true F_need_row) (C_few_of : Cal P w K mg base tb 4 "few_of" 2 true F_few_of) : FnOk P w K mg base (L2.CX P w) 5 f fd ["wheels", "row"] (spF P w K mg tb 2 true F_has_few) :=
  fn_d (g := g_has_few) F sc_has_few true fun cdv A outer s H E B pin xc hr hp tk => (ss_cons (s_expr (px_call C_need_wheels (hr.mono (by decide)) rfl rfl rfl rfl rfl tk (px_cons (px_v 0 (pv 0)) px_nil)))
      (ss_cons (s_expr (px_call C_need_row (hr.mono (by decide)) rfl rfl rfl rfl rfl tk (px_cons (px_v 0 (pv 0)) (px_cons (px_v 1 (pv 1)) px_nil))))
      (ss_one (s_ret (px_cmp op_notN (s_notN _) (px_call C_few_of (hr.mono (by decide)) rfl rfl rfl rfl rfl tk (px_cons (px_v 0 (pv 0)) (px_cons (px_v 1 (pv 1)) px_nil))) px_non (nomark _))))))
abbrev stimes : Stmt := top 15
theorem sc_times : FnScope ["wheels", "step", "number", "a", "wheel"] ["wheels", "step", "number"] (defScope stimes) := ⟨rfl, rfl, rfl, by decide +kernel, rfl, by decide +kernel, by decide +kernel⟩
theorem ok_times {f : Addr} {fd : FuncData} (F : Fun K "times" "times" stimes f fd) (T : Txt mg)  : FnOk P w K mg base (L2.CX P w) 1 f fd ["wheels", "step", "number"] (spF P w K mg tb 3 true F_times) :=
  fn_d (g := g_times) F sc_times true fun cdv A outer s H E B pin xc hr hp tk => (ss_one (s_ret (px_callTy call_tuple_of (s_tuple _) rfl T.b_tuple boot_tuple (px_cons (px_ofF (px_lc (own := [("a", 3), ("wheel", 4)]) rfl sc_times.nd (i_zip2 rfl rfl T.b_zip (px_cons (px_v 1 (pv 1)) (px_cons (px_v 0 (pv 0)) px_nil))) (blkOk_by (N := ["wheels", "step", "number", "a", "wheel"]) (sc := defScope stimes) (by decide +kernel)) (fun _ _ _ _ _ _ => (g_tup rfl rfl (g_cons (g_n (i := 3) (.inl (hp rfl)) sc_times.nd rfl (by first | exact Or.inl rfl | exact Or.inr rfl)) (g_cons (g_n (i := 4) (.inl (hp rfl)) sc_times.nd rfl (by first | exact Or.inl rfl | exact Or.inr rfl)) g_nil)))) (fun _ _ _ _ _ _ => ts_nil) (fun _ _ _ _ _ _ => (px_bin op_modN (s_mod _) (px_bin o_mul2 (s_mul2 _) (px_v 3 (pv 3)) (px_v 2 (pv 2))) (px_v 4 (pv 4)))) (by decide) (.inl (hp rfl)))) px_nil))))
abbrev sdoes_tell : Stmt := top 22
theorem sc_does_tell : FnScope ["wheels", "row", "value", "step", "numbers", "most"] ["wheels", "row", "value"] (defScope sdoes_tell) := ⟨rfl, rfl, rfl, by decide +kernel, rfl, by decide +kernel, by decide +kernel⟩
theorem ok_does_tell {f c Pt fn : Addr} {fd : FuncData} (F : FunC K "does_tell" "does_tell" sdoes_tell f fd c) (T : Txt mg) (TB : GxR.TabB base mg c Pt) (hPt : Pt ∈ tb) (NF : ∀ X : Cx, X.K = K → X.mg = mg → NumF X fn) (ET : TimE K mg) (C_order_of : Cal P w K mg base tb 2 "order_of" 2 true F_order_of) (C_is_step : Cal P w K mg base tb 2 "is_step" 2 true F_is_step) : FnOk P w K mg base (L2.CX P w) 3 f fd ["wheels", "row", "value"] (spF P w K mg tb 3 true F_does_tell) :=
  fn_dc (g := g_does_tell) F sc_does_tell true fun A outer s H E B pin xc hr hp tk => (ss_cons (s_if (PW.pt (pw_or' (pt_not' (pt_x (px_callB call_isi (s_isi _) rfl T.b_isinstance (by decide +kernel) (px_cons (px_v 2 (pv 2)) (px_cons (px_op (v := .ty "tuple") (pe_bltn rfl T.b_tuple (by decide +kernel) rfl)) px_nil))))) (pw_or' (pt_cmp' (op_neD hr.units) (s_ne _) bl_eq (px_callB c_len (s_len _) rfl T.b_len PySem.boot_len (px_cons (px_v 2 (pv 2)) px_nil)) px_int (nomark _)) (pw_one_or (pt_not' (pt_x (px_call C_is_step (hr.mono (by decide)) rfl rfl rfl rfl rfl tk (px_cons (px_v 0 (pv 0)) (px_cons (px_ix ix_seq (s_ix _) (px_v 2 (pv 2)) px_int (fun _ _ => rfl)) px_nil))))))))) (ss_one (s_ret px_bl)) ss_nil)
      (ss_cons (s_asg (px_v 2 (pv 2)) (g_tup rfl rfl (g_cons (g_n (i := 3) (.inl (hp rfl)) sc_does_tell.nd rfl (by first | exact Or.inl rfl | exact Or.inr rfl)) (g_cons (g_n (i := 4) (.inl (hp rfl)) sc_does_tell.nd rfl (by first | exact Or.inl rfl | exact Or.inr rfl)) g_nil))))
      (ss_cons (s_if (PW.pt (pw_or' (pt_not' (pt_x (px_callB call_isi (s_isi _) rfl T.b_isinstance (by decide +kernel) (px_cons (px_v 4 (pv 4)) (px_cons (px_op (v := .ty "tuple") (pe_bltn rfl T.b_tuple (by decide +kernel) rfl)) px_nil))))) (pw_one_or (pt_cmp' (op_neD hr.units) (s_ne _) bl_eq (px_callB c_len (s_len _) rfl T.b_len PySem.boot_len (px_cons (px_v 4 (pv 4)) px_nil)) (px_callB c_len (s_len _) rfl T.b_len PySem.boot_len (px_cons (px_v 1 (pv 1)) px_nil)) (nomark _))))) (ss_one (s_ret px_bl)) ss_nil)
      (ss_cons (s_set (i := 5) (.inl (hp rfl)) sc_does_tell.nd rfl (by first | exact Or.inl rfl | exact Or.inr rfl) (px_bin op_sub (s_sub _) (px_call C_order_of (hr.mono (by decide)) rfl rfl rfl rfl rfl tk (px_cons (px_v 0 (pv 0)) (px_cons (px_v 3 (pv 3)) px_nil))) px_int))
      (ss_cons (s_if (PW.pt (pw_or' (pt_not' (pt_x (px_all1 hr rfl rfl rfl rfl T.b_all TB rfl hPt ⟨rfl, rfl, by decide +kernel, rfl, rfl, (gfree (names := (defScope sdoes_tell).names) (n := s.heap.objs.size + 1) (by decide +kernel))⟩ (px_v 4 (pv 4)) (el_num1 (j := 5) hr rfl (NF _ rfl rfl) ⟨rfl, rfl, by decide +kernel, rfl, rfl, (gfree (names := (defScope sdoes_tell).names) (n := s.heap.objs.size + 1) (by decide +kernel))⟩ rfl rfl rfl rfl) (by intro _; rfl)))) (pw_one_or (pt_cmp' op_gt (s_cmpI _ _) bl_cmpI (px_callB (c_sum rfl) (s_sum _) rfl T.b_sum (by decide +kernel) (px_cons (px_v 4 (pv 4)) px_nil)) (px_v 5 (pv 5)) (nomark _))))) (ss_one (s_ret px_bl)) ss_nil)
      (ss_one (s_ret (px_all2 hr rfl rfl rfl rfl T.b_all rfl T.b_zip TB rfl hPt ⟨rfl, rfl, by decide +kernel, rfl, rfl, rfl, by decide, (gfree (names := (defScope sdoes_tell).names) (n := s.heap.objs.size + 1) (by decide +kernel))⟩ (px_cons (px_v 1 (pv 1)) (px_cons (px_v 4 (pv 4)) px_nil)) (ET _ _ _ 0 3 _ _ _ _ _ _ _ _ rfl rfl hr rfl ⟨rfl, rfl, by decide +kernel, rfl, rfl, rfl, by decide, (gfree (names := (defScope sdoes_tell).names) (n := s.heap.objs.size + 1) (by decide +kernel))⟩ rfl rfl rfl rfl rfl rfl rfl) (by intro _; rfl)))))))))
abbrev sshows_teller : Stmt := top 23
theorem sc_shows_teller : FnScope ["wheels", "row", "value"] ["wheels", "row", "value"] (defScope sshows_teller) := ⟨rfl, rfl, rfl, by decide +kernel, rfl, by decide +kernel, by decide +kernel⟩
theorem ok_shows_teller {f : Addr} {fd : FuncData} (F : Fun K "shows_teller" "shows_teller" sshows_teller f fd) (T : Txt mg) (C_need_wheels : Cal P w K mg base tb 2 "need_wheels" 1 true F_need_wheels) (C_need_row : Cal P w K mg base tb 3 "need_row" 2 true F_need_row) (C_does_tell : Cal P w K mg base tb 3 "does_tell" 3 true F_does_tell) (C_tellers_of : Cal P w K mg base tb 3 "tellers_of" 2 true F_tellers_of) : FnOk P w K mg base (L2.CX P w) 4 f fd ["wheels", "row", "value"] (spF P w K mg tb 3 true F_shows_teller) :=
  fn_d (g := g_shows_teller) F sc_shows_teller true fun cdv A outer s H E B pin xc hr hp tk => (ss_cons (s_expr (px_call C_need_wheels (hr.mono (by decide)) rfl rfl rfl rfl rfl tk (px_cons (px_v 0 (pv 0)) px_nil)))
      (ss_cons (s_expr (px_call C_need_row (hr.mono (by decide)) rfl rfl rfl rfl rfl tk (px_cons (px_v 0 (pv 0)) (px_cons (px_v 1 (pv 1)) px_nil))))
      (ss_cons (s_if (pt_cmp' op_isN (s_isN _) bl_isN (px_v 2 (pv 2)) px_non (nomark _)) (ss_one (s_ret (px_notT rfl (px_call C_tellers_of (hr.mono (by decide)) rfl rfl rfl rfl rfl tk (px_cons (px_v 0 (pv 0)) (px_cons (px_v 1 (pv 1)) px_nil)))))) ss_nil)
      (ss_one (s_ret (px_call C_does_tell (hr.mono (by decide)) rfl rfl rfl rfl rfl tk (px_cons (px_v 0 (pv 0)) (px_cons (px_v 1 (pv 1)) (px_cons (px_v 2 (pv 2)) px_nil)))))))))
abbrev ssums_of : Stmt := top 28
theorem sc_sums_of : FnScope ["wheels", "row", "found", "step", "later", "one"] ["wheels", "row"] (defScope ssums_of) := ⟨rfl, rfl, rfl, by decide +kernel, rfl, by decide +kernel, by decide +kernel⟩
theorem ok_sums_of {f : Addr} {fd : FuncData} (F : Fun K "sums_of" "sums_of" ssums_of f fd) (T : Txt mg) (C_added : Cal P w K mg base tb 1 "added" 3 true F_added) : FnOk P w K mg base (L2.CX P w) 2 f fd ["wheels", "row"] (spF P w K mg tb 2 true F_sums_of) :=
  fn_d (g := g_sums_of) F sc_sums_of true fun cdv A outer s H E B pin xc hr hp tk => (ss_cons (s_set (i := 2) (.inl (hp rfl)) sc_sums_of.nd rfl (by first | exact Or.inl rfl | exact Or.inr rfl) (px_ofK (px_emptyK rfl rfl)))
      (ss_cons (s_for (passes_of rfl) rfl (i_seq rfl (px_v 1 (pv 1))) (g_n (i := 3) (.inl (hp rfl)) sc_sums_of.nd rfl (by first | exact Or.inl rfl | exact Or.inr rfl)) (ss_cons (s_ownK (i := 4) (.inl (hp rfl)) sc_sums_of.nd rfl (by first | exact Or.inl rfl | exact Or.inr rfl) (px_copyK hr rfl rfl rfl rfl T.b_dict (px_v 2 (pv 2))))
      (ss_cons (s_putK 4 hr rfl rfl rfl (pv 4) (px_v 3 (pv 3)) px_bl)
      (ss_cons (s_for (passes_of rfl) rfl (i_keys rfl rfl rfl (px_v 2 (pv 2))) (g_n (i := 5) (.inl (hp rfl)) sc_sums_of.nd rfl (by first | exact Or.inl rfl | exact Or.inr rfl)) (ss_one (s_putK 4 hr rfl rfl rfl (pv 4) (px_call C_added (hr.mono (by decide)) rfl rfl rfl rfl rfl tk (px_cons (px_v 0 (pv 0)) (px_cons (px_v 5 (pv 5)) (px_cons (px_v 3 (pv 3)) px_nil)))) px_bl)))
      (ss_one (s_frzK 4 (s_set (i := 2) (.inl (hp rfl)) sc_sums_of.nd rfl (by first | exact Or.inl rfl | exact Or.inr rfl) (px_v 4 (pv 4)))))))))
      (ss_one (s_ret (px_ofF (px_srtKF hr rfl rfl rfl rfl T.b_sorted (px_v 2 (pv 2))))))))
abbrev ssums : Stmt := top 29
theorem sc_sums : FnScope ["wheels", "row"] ["wheels", "row"] (defScope ssums) := ⟨rfl, rfl, rfl, by decide +kernel, rfl, by decide +kernel, by decide +kernel⟩
theorem ok_sums {f : Addr} {fd : FuncData} (F : Fun K "sums" "sums" ssums f fd) (T : Txt mg) (C_need_wheels : Cal P w K mg base tb 2 "need_wheels" 1 true F_need_wheels) (C_need_row : Cal P w K mg base tb 3 "need_row" 2 true F_need_row) (C_sums_of : Cal P w K mg base tb 2 "sums_of" 2 true F_sums_of) : FnOk P w K mg base (L2.CX P w) 4 f fd ["wheels", "row"] (spF P w K mg tb 2 true F_sums) :=
  fn_d (g := g_sums) F sc_sums true fun cdv A outer s H E B pin xc hr hp tk => (ss_cons (s_expr (px_call C_need_wheels (hr.mono (by decide)) rfl rfl rfl rfl rfl tk (px_cons (px_v 0 (pv 0)) px_nil)))
      (ss_cons (s_expr (px_call C_need_row (hr.mono (by decide)) rfl rfl rfl rfl rfl tk (px_cons (px_v 0 (pv 0)) (px_cons (px_v 1 (pv 1)) px_nil))))
      (ss_one (s_ret (px_callTy call_tuple_of (s_tuple _) rfl T.b_tuple boot_tuple (px_cons (px_call C_sums_of (hr.mono (by decide)) rfl rfl rfl rfl rfl tk (px_cons (px_v 0 (pv 0)) (px_cons (px_v 1 (pv 1)) px_nil))) px_nil))))))
abbrev sstays_out : Stmt := top 30
theorem sc_stays_out : FnScope ["wheels", "row"] ["wheels", "row"] (defScope sstays_out) := ⟨rfl, rfl, rfl, by decide +kernel, rfl, by decide +kernel, by decide +kernel⟩
theorem ok_stays_out {f : Addr} {fd : FuncData} (F : Fun K "stays_out" "stays_out" sstays_out f fd) (T : Txt mg) (C_home : Cal P w K mg base tb 1 "home" 1 true F_home) (C_sums_of : Cal P w K mg base tb 2 "sums_of" 2 true F_sums_of) : FnOk P w K mg base (L2.CX P w) 3 f fd ["wheels", "row"] (spF P w K mg tb 2 true F_stays_out) :=
  fn_d (g := g_stays_out) F sc_stays_out true fun cdv A outer s H E B pin xc hr hp tk => (ss_one (s_ret (px_cmp (o_notInS (room65 hr)) (s_inS _ true) (px_call C_home (hr.mono (by decide)) rfl rfl rfl rfl rfl tk (px_cons (px_v 0 (pv 0)) px_nil)) (px_call C_sums_of (hr.mono (by decide)) rfl rfl rfl rfl rfl tk (px_cons (px_v 0 (pv 0)) (px_cons (px_v 1 (pv 1)) px_nil))) rfl)))
abbrev snever_home : Stmt := top 31
theorem sc_never_home : FnScope ["wheels", "row"] ["wheels", "row"] (defScope snever_home) := ⟨rfl, rfl, rfl, by decide +kernel, rfl, by decide +kernel, by decide +kernel⟩
theorem ok_never_home {f : Addr} {fd : FuncData} (F : Fun K "never_home" "never_home" snever_home f fd) (T : Txt mg) (C_need_wheels : Cal P w K mg base tb 2 "need_wheels" 1 true F_need_wheels) (C_need_row : Cal P w K mg base tb 3 "need_row" 2 true F_need_row) (C_stays_out : Cal P w K mg base tb 3 "stays_out" 2 true F_stays_out) : FnOk P w K mg base (L2.CX P w) 4 f fd ["wheels", "row"] (spF P w K mg tb 2 true F_never_home) :=
  fn_d (g := g_never_home) F sc_never_home true fun cdv A outer s H E B pin xc hr hp tk => (ss_cons (s_expr (px_call C_need_wheels (hr.mono (by decide)) rfl rfl rfl rfl rfl tk (px_cons (px_v 0 (pv 0)) px_nil)))
      (ss_cons (s_expr (px_call C_need_row (hr.mono (by decide)) rfl rfl rfl rfl rfl tk (px_cons (px_v 0 (pv 0)) (px_cons (px_v 1 (pv 1)) px_nil))))
      (ss_one (s_ret (px_call C_stays_out (hr.mono (by decide)) rfl rfl rfl rfl rfl tk (px_cons (px_v 0 (pv 0)) (px_cons (px_v 1 (pv 1)) px_nil)))))))
abbrev slaw : Stmt := top 45
theorem sc_law : FnScope ["_law_script", "_law_row_here", "_law_wheels_here", "_law_steps_here", "_law_every", "_law_home_here", "_law_due", "_law_told", "_law_tellers_here", "_law_some", "_law_pair", "_law_step", "_law_numbers", "_law_line", "_law_number"] ["_law_script"] (defScope slaw) := ⟨rfl, rfl, rfl, by decide +kernel, rfl, by decide +kernel, by decide +kernel⟩
def g_law : GS := (gSeq (gFrz 0 (gOwn 1 (fLst (aCons (aV 0) (aCons (aC (.int 0)) (aCons (aC (.int 5602)) (aCons (aC (.int 0)) aNil)))))))
    (gSeq (gSet 2 (aCallO 1 F__law_wheels 1 aNil))
    (gSeq (gSet 3 (aCallO 3 F__law_row 1 (aCons (aV 2) (aCons (aC (.int 10)) aNil))))
    (gSeq (gPar 4 5 (aCons (aCall 2 F__law_sums (aCons (aV 2) (aCons (aV 3) aNil))) (aCons (aCall 1 F__law_home (aCons (aV 2) aNil)) aNil)))
    (gSeq (gSet 6 (vAnd (a2 (dIn true) (aV 5) (aV 4)) (a2 (dCmpI (fun i j => decide (i ≤ j))) (aN dLen (aCons (aV 4) aNil)) (a2 dSub (a2 dMul2 (aC (.int 2)) (aN dLen (aCons (aV 3) aNil))) (aC (.int 2))))))
    (gSeq (gIf (cNot (cB (aCall 2 F__law_alike (aCons (aCall 2 F_has_few (aCons (aV 2) (aCons (aV 3) aNil))) (aCons (aV 6) aNil))))) (gRet (aC (.bl false))) gNext)
    (gSeq (gPar 7 8 (aCons (aCall 2 F_few_teller (aCons (aV 2) (aCons (aV 3) aNil))) (aCons (aCall 2 F__law_tellers (aCons (aV 2) (aCons (aV 3) aNil))) aNil)))
    (gSeq (gSet 9 (aLst (aComp [10] (aI (aV 8)) (tgN 10) (cB (a2 (dCmpI (fun i j => decide (i ≤ j))) (aN dSum (aCons (a2 dIx (aV 10) (aC (.int 1))) aNil)) (a2 dSub (a2 dMul2 (aC (.int 2)) (aN dLen (aCons (aV 3) aNil))) (aC (.int 2))))) (aV 10))))
    (gSeq (gIf (cOr (cB (a2 (dEq true) (a2 (dIsN true) (aV 7) (aC .non)) (aV 6))) (cOr (cB (a2 (dEq true) (aN dLen (aCons (aV 9) aNil)) (aN dInt (aCons (aV 6) aNil)))) (cAnd (cB (a2 (dIsN true) (aV 7) (aC .non))) (cB (a2 (dEq true) (aV 7) (a2 dIx (aV 9) (aC (.int 0)))))))) (gRet (aC (.bl false))) gNext)
    (gSeq (gIf (cB (a2 (dIsN true) (aV 7) (aC .non))) (gSeq (gAsg (tgT 2 (tgCons (tgN 11) (tgCons (tgN 12) tgNil))) (aV 7))
    (gSeq (gSet 13 (aLst (aSrt (aLst (aComp [14] (aIN opRange2 (aCons (aC (.int 1)) (aCons (a2 dAdd (aN dSum (aCons (aV 12) aNil)) (aC (.int 1))) aNil))) (tgN 14) cYes (aCall 3 F__law_times (aCons (aV 2) (aCons (aV 11) (aCons (aV 14) aNil)))))))))
    (gIf (cOr (cB (a2 (dEq true) (aV 13) (aV 4))) (cOr (cB (a2 (dEq true) (a1 dLS (aV 13)) (aN dSum (aCons (aV 12) aNil)))) (cNot (cB (aN dIsi (aCons (aV 12) (aCons (aC (.op (.ty "tuple"))) aNil))))))) (gRet (aC (.bl false))) gNext))) gNext)
    (gSeq (gSet 10 (aCall 2 F_teller (aCons (aV 2) (aCons (aV 3) aNil))))
    (gSeq (gIf (cOr (cB (a2 (dEq true) (a2 (dIsN false) (aV 10) (aC .non)) (a2 (dEq false) (aV 8) (aLst (fLst aNil))))) (cAnd (cB (a2 (dIsN true) (aV 10) (aC .non))) (cB (a2 (dIn true) (aV 10) (aV 8))))) (gRet (aC (.bl false))) gNext)
    (gSeq (gIf (cAnd (cB (a2 (dIsN true) (aV 10) (aC .non))) (cAnd (cB (a2 (dEq true) (aV 3) (aN dTup aNil))) (cOr (cB (a2 (dIsB true) (aCall 2 F_never_home (aCons (aV 2) (aCons (aV 3) aNil))) (aC (.bl true)))) (cB (a2 (dIn false) (aV 5) (aV 4)))))) (gRet (aC (.bl false))) gNext)
    (gRet (vAnd (a2 (dIsB false) (aCall 3 F_shows_teller (aCons (aV 2) (aCons (aV 3) (aCons (aV 10) aNil)))) (aC (.bl true))) (a2 (dEq false) (aCall 2 F_sums (aCons (aV 2) (aCons (aV 3) aNil))) (aN dTuple (aCons (aV 4) aNil))))))))))))))))))
def F_law : List Cell → RS D := fnF 15 g_law
theorem ok_law {f : Addr} {fd : FuncData} (F : Fun K "law" "law" slaw f fd) (T : Txt mg) (C__law_wheels : Cal P w K mg base tb 3 "_law_wheels" 1 false F__law_wheels) (C__law_row : Cal P w K mg base tb 3 "_law_row" 3 false F__law_row) (C_teller : Cal P w K mg base tb 4 "teller" 2 true F_teller) (C__law_sums : Cal P w K mg base tb 2 "_law_sums" 2 true F__law_sums) (C__law_home : Cal P w K mg base tb 1 "_law_home" 1 true F__law_home) (C__law_alike : Cal P w K mg base tb 61 "_law_alike" 2 true F__law_alike) (C_few_teller : Cal P w K mg base tb 5 "few_teller" 2 true F_few_teller) (C__law_tellers : Cal P w K mg base tb 3 "_law_tellers" 2 true F__law_tellers) (C_has_few : Cal P w K mg base tb 5 "has_few" 2 true F_has_few) (C_shows_teller : Cal P w K mg base tb 4 "shows_teller" 3 true F_shows_teller) (C_sums : Cal P w K mg base tb 4 "sums" 2 true F_sums) (C__law_times : Cal P w K mg base tb 1 "_law_times" 3 true F__law_times) (C_never_home : Cal P w K mg base tb 4 "never_home" 2 true F_never_home) : FnOk P w K mg base (L2.CX P w) 62 f fd ["_law_script"] (spF P w K mg tb 1 false F_law) :=
  fn_d (g := g_law) F sc_law false fun cdv A outer s H E B pin xc hr hp tk => (ss_cons (s_frz 0 (s_own (i := 1) (.inr (by decide)) sc_law.nd rfl (by first | exact Or.inl rfl | exact Or.inr rfl) (px_lstF (px_cons (px_v 0 (pv 0)) (px_cons px_int (px_cons px_int (px_cons px_int px_nil)))))))
      (ss_cons (s_set (i := 2) (.inr (by decide)) sc_law.nd rfl (by first | exact Or.inl rfl | exact Or.inr rfl) (px_callO 1 C__law_wheels (hr.mono (by decide)) rfl rfl rfl rfl rfl tk (pv 1) px_nil))
      (ss_cons (s_set (i := 3) (.inr (by decide)) sc_law.nd rfl (by first | exact Or.inl rfl | exact Or.inr rfl) (px_callO 1 C__law_row (hr.mono (by decide)) rfl rfl rfl rfl rfl tk (pv 1) (px_cons (px_v 2 (pv 2)) (px_cons px_int px_nil))))
      (ss_cons (s_par (i := 4) (j := 5) (.inr (by decide)) (.inr (by decide)) rfl sc_law.nd rfl rfl (by decide) rfl rfl (px_cons (px_call C__law_sums (hr.mono (by decide)) rfl rfl rfl rfl rfl tk (px_cons (px_v 2 (pv 2)) (px_cons (px_v 3 (pv 3)) px_nil))) (px_cons (px_call C__law_home (hr.mono (by decide)) rfl rfl rfl rfl rfl tk (px_cons (px_v 2 (pv 2)) px_nil)) px_nil)) (fun _ h => ps_par rfl sc_law.nd rfl rfl (by decide) rfl rfl h (by rfl)))
      (ss_cons (s_set (i := 6) (.inr (by decide)) sc_law.nd rfl (by first | exact Or.inl rfl | exact Or.inr rfl) (px_and (px_cmp (o_notInS (room65 hr)) (s_inS _ true) (px_v 5 (pv 5)) (px_v 4 (pv 4)) rfl) (px_one (px_cmp op_le (s_cmpI _ _) (px_callB c_len (s_len _) rfl T.b_len PySem.boot_len (px_cons (px_v 4 (pv 4)) px_nil)) (px_bin op_sub (s_sub _) (px_bin o_mul2 (s_mul2 _) px_int (px_callB c_len (s_len _) rfl T.b_len PySem.boot_len (px_cons (px_v 3 (pv 3)) px_nil))) px_int) (nomark _)))))
      (ss_cons (s_if (pt_not' (pt_x (px_call C__law_alike (hr.mono (by decide)) rfl rfl rfl rfl rfl tk (px_cons (px_call C_has_few (hr.mono (by decide)) rfl rfl rfl rfl rfl tk (px_cons (px_v 2 (pv 2)) (px_cons (px_v 3 (pv 3)) px_nil))) (px_cons (px_v 6 (pv 6)) px_nil))))) (ss_one (s_ret px_bl)) ss_nil)
      (ss_cons (s_par (i := 7) (j := 8) (.inr (by decide)) (.inr (by decide)) rfl sc_law.nd rfl rfl (by decide) rfl rfl (px_cons (px_call C_few_teller (hr.mono (by decide)) rfl rfl rfl rfl rfl tk (px_cons (px_v 2 (pv 2)) (px_cons (px_v 3 (pv 3)) px_nil))) (px_cons (px_call C__law_tellers (hr.mono (by decide)) rfl rfl rfl rfl rfl tk (px_cons (px_v 2 (pv 2)) (px_cons (px_v 3 (pv 3)) px_nil))) px_nil)) (fun _ h => ps_par rfl sc_law.nd rfl rfl (by decide) rfl rfl h (by rfl)))
      (ss_cons (s_setLc (own := [("_law_pair", 10)]) (i := 9) (.inr (by decide)) rfl sc_law.nd rfl rfl (sw_true rfl rfl rfl (by decide +kernel)) (i_seq rfl (px_v 8 (pv 8))) (blkOk_by (N := ["_law_script", "_law_row_here", "_law_wheels_here", "_law_steps_here", "_law_every", "_law_home_here", "_law_due", "_law_told", "_law_tellers_here", "_law_some", "_law_pair", "_law_step", "_law_numbers", "_law_line", "_law_number"]) (sc := defScope slaw) (by decide +kernel)) (fun _ _ _ _ _ _ => (g_n (i := 10) (.inr (by decide)) sc_law.nd rfl (by first | exact Or.inl rfl | exact Or.inr rfl))) (fun _ _ _ _ _ _ => (ts_one (pt_cmp' op_le (s_cmpI _ _) bl_cmpI (px_callB (c_sum rfl) (s_sum _) rfl T.b_sum (by decide +kernel) (px_cons (px_ix ix_seq (s_ix _) (px_v 10 (pv 10)) px_int (fun _ _ => rfl)) px_nil)) (px_bin op_sub (s_sub _) (px_bin o_mul2 (s_mul2 _) px_int (px_callB c_len (s_len _) rfl T.b_len PySem.boot_len (px_cons (px_v 3 (pv 3)) px_nil))) px_int) (nomark _)))) (fun _ _ _ _ _ _ => (px_v 10 (pv 10))) (by decide) (.inr (by decide)))
      (ss_cons (s_if (PW.pt (pw_or' (pt_cmp' (op_neD hr.units) (s_ne _) bl_eq (px_cmp op_notN (s_notN _) (px_v 7 (pv 7)) px_non (nomark _)) (px_v 6 (pv 6)) (nomark _)) (pw_or' (pt_cmp' (op_neD hr.units) (s_ne _) bl_eq (px_callB c_len (s_len _) rfl T.b_len PySem.boot_len (px_cons (px_v 9 (pv 9)) px_nil)) (px_callTy call_int1 (s_int _) rfl T.b_int boot_int (px_cons (px_v 6 (pv 6)) px_nil)) (nomark _)) (pw_one_or (PW.pt (pw_and' (pt_cmp' op_notN (s_notN _) bl_isN (px_v 7 (pv 7)) px_non (nomark _)) (pw_one_and (pt_cmp' (op_neD hr.units) (s_ne _) bl_eq (px_v 7 (pv 7)) (px_ix ix_seq (s_ix _) (px_v 9 (pv 9)) px_int (fun _ _ => rfl)) (nomark _))))))))) (ss_one (s_ret px_bl)) ss_nil)
      (ss_cons (s_if (pt_cmp' op_notN (s_notN _) bl_isN (px_v 7 (pv 7)) px_non (nomark _)) (ss_cons (s_asg (px_v 7 (pv 7)) (g_tup rfl rfl (g_cons (g_n (i := 11) (.inr (by decide)) sc_law.nd rfl (by first | exact Or.inl rfl | exact Or.inr rfl)) (g_cons (g_n (i := 12) (.inr (by decide)) sc_law.nd rfl (by first | exact Or.inl rfl | exact Or.inr rfl)) g_nil))))
      (ss_cons (s_set (i := 13) (.inr (by decide)) sc_law.nd rfl (by first | exact Or.inl rfl | exact Or.inr rfl) (px_ofF (px_srtF hr rfl rfl T.b_sorted (px_ofF (px_lc (own := [("_law_number", 14)]) rfl sc_law.nd (i_range2 rfl T.b_range (px_cons px_int (px_cons (px_bin o_add (s_add _) (px_callB (c_sum rfl) (s_sum _) rfl T.b_sum (by decide +kernel) (px_cons (px_v 12 (pv 12)) px_nil)) px_int) px_nil))) (blkOk_by (N := ["_law_script", "_law_row_here", "_law_wheels_here", "_law_steps_here", "_law_every", "_law_home_here", "_law_due", "_law_told", "_law_tellers_here", "_law_some", "_law_pair", "_law_step", "_law_numbers", "_law_line", "_law_number"]) (sc := defScope slaw) (by decide +kernel)) (fun _ _ _ _ _ _ => (g_n (i := 14) (.inr (by decide)) sc_law.nd rfl (by first | exact Or.inl rfl | exact Or.inr rfl))) (fun _ _ _ _ _ _ => ts_nil) (fun _ _ _ _ _ _ => (px_call C__law_times (hr.mono (by decide)) rfl rfl rfl rfl rfl takes0 (px_cons (px_v 2 (pv 2)) (px_cons (px_v 11 (pv 11)) (px_cons (px_v 14 (pv 14)) px_nil))))) (by decide) (.inr (by decide)))))))
      (ss_one (s_if (PW.pt (pw_or' (pt_cmp' (op_neD hr.units) (s_ne _) bl_eq (px_v 13 (pv 13)) (px_v 4 (pv 4)) (nomark _)) (pw_or' (pt_cmp' (op_neD hr.units) (s_ne _) bl_eq (px_lenSet hr rfl rfl rfl T.b_len rfl T.b_set (px_v 13 (pv 13))) (px_callB (c_sum rfl) (s_sum _) rfl T.b_sum (by decide +kernel) (px_cons (px_v 12 (pv 12)) px_nil)) (nomark _)) (pw_one_or (pt_not' (pt_x (px_callB call_isi (s_isi _) rfl T.b_isinstance (by decide +kernel) (px_cons (px_v 12 (pv 12)) (px_cons (px_op (v := .ty "tuple") (pe_bltn rfl T.b_tuple (by decide +kernel) rfl)) px_nil))))))))) (ss_one (s_ret px_bl)) ss_nil)))) ss_nil)
      (ss_cons (s_set (i := 10) (.inr (by decide)) sc_law.nd rfl (by first | exact Or.inl rfl | exact Or.inr rfl) (px_call C_teller (hr.mono (by decide)) rfl rfl rfl rfl rfl tk (px_cons (px_v 2 (pv 2)) (px_cons (px_v 3 (pv 3)) px_nil))))
      (ss_cons (s_if (PW.pt (pw_or' (pt_cmp' (op_neD hr.units) (s_ne _) bl_eq (px_cmp op_isN (s_isN _) (px_v 10 (pv 10)) px_non (nomark _)) (px_cmp (op_eqD hr.units) (s_eq _) (px_v 8 (pv 8)) (px_ofF (px_lstF px_nil)) (nomark _)) (nomark _)) (pw_one_or (PW.pt (pw_and' (pt_cmp' op_notN (s_notN _) bl_isN (px_v 10 (pv 10)) px_non (nomark _)) (pw_one_and (pt_cmp' (o_notInS (room65 hr)) (s_inS _ true) bl_in (px_v 10 (pv 10)) (px_v 8 (pv 8)) rfl))))))) (ss_one (s_ret px_bl)) ss_nil)
      (ss_cons (s_if (PW.pt (pw_and' (pt_cmp' op_notN (s_notN _) bl_isN (px_v 10 (pv 10)) px_non (nomark _)) (pw_and' (pt_cmp' (op_neD hr.units) (s_ne _) bl_eq (px_v 3 (pv 3)) (px_tup px_nil) (nomark _)) (pw_one_and (PW.pt (pw_or' (pt_cmp' op_isnot_bl (s_notB _) bl_isB (px_call C_never_home (hr.mono (by decide)) rfl rfl rfl rfl rfl tk (px_cons (px_v 2 (pv 2)) (px_cons (px_v 3 (pv 3)) px_nil))) px_bl (nomark _)) (pw_one_or (pt_cmp' (o_inS (room65 hr)) (s_inS _ false) bl_in (px_v 5 (pv 5)) (px_v 4 (pv 4)) rfl)))))))) (ss_one (s_ret px_bl)) ss_nil)
      (ss_one (s_ret (px_and (px_cmp op_is_bl (s_isB _) (px_call C_shows_teller (hr.mono (by decide)) rfl rfl rfl rfl rfl tk (px_cons (px_v 2 (pv 2)) (px_cons (px_v 3 (pv 3)) (px_cons (px_v 10 (pv 10)) px_nil)))) px_bl (nomark _)) (px_one (px_cmp (op_eqD hr.units) (s_eq _) (px_call C_sums (hr.mono (by decide)) rfl rfl rfl rfl rfl tk (px_cons (px_v 2 (pv 2)) (px_cons (px_v 3 (pv 3)) px_nil))) (px_callTy call_tuple_of (s_tuple _) rfl T.b_tuple boot_tuple (px_cons (px_v 4 (pv 4)) px_nil)) (nomark _)))))))))))))))))))
end
end T2
end
section
set_option Elab.async false
set_option linter.all false
set_option maxRecDepth 100000
set_option maxHeartbeats 4000000
namespace E2
open PySem PySem.Spec PyProof.Rows L2 DL RD
/-! ### small numbers make every number -/
theorem perm_sum {l m : List Int} (p : l.Perm m) : l.sum = m.sum := by
  induction p with
  | nil => rfl
  | cons x _ ih => rw [List.sum_cons, List.sum_cons, ih]
  | swap x y l => rw [List.sum_cons, List.sum_cons, List.sum_cons, List.sum_cons]; omega
  | trans _ _ a c => exact a.trans c
section
variable {ws s : List Int}
theorem tst (hw : ∀ w ∈ ws, 0 < w) (hs : St ws s) (n : Int) : St ws (pTimes ws s n) := ⟨pTimes_length hs.1, zip_times hw⟩
theorem mst (hw : ∀ w ∈ ws, 0 < w) (hs : St ws s) {ns : List Int} : ∀ u ∈ ns.map (pTimes ws s), St ws u := fun u hu => by
  obtain ⟨n, _, rfl⟩ := List.mem_map.mp hu
  exact tst hw hs n
theorem ones (hw : ∀ w ∈ ws, 0 < w) (hs : St ws s) : ∀ (k : Nat) (m : Int), 1 ≤ m → m ≤ k → pTimes ws s m ∈ pSums ws ((List.replicate k 1).map (pTimes ws s))
  | 0, m, h1, h2 => by omega
  | k + 1, m, h1, h2 => by
    rw [List.replicate_succ', List.map_append, List.map_cons, List.map_nil, pSums_snoc]
    have ok := (sums_ok hw (mst hw hs (ns := List.replicate k 1))).1
    refine (nextS_mem hw ok (tst hw hs 1)).mpr ?_
    by_cases hm : m ≤ k
    · exact .inl (ones hw hs k m h1 hm)
    · by_cases h0 : m = 1
      · exact .inr (.inl (by rw [h0]))
      · exact .inr (.inr ⟨pTimes ws s (m - 1), ones hw hs k (m - 1) (by omega) (by omega), by rw [pAdd_timesB hw]; congr 1; omega⟩)
theorem len_sum : ∀ {ns : List Int}, (∀ n ∈ ns, 1 ≤ n) → (ns.length : Int) ≤ ns.sum
  | [], _ => by simp
  | n :: ns, h => by
    have := len_sum fun k hk => h k (List.mem_cons_of_mem n hk)
    have := h n List.mem_cons_self
    rw [List.sum_cons, List.length_cons]
    push_cast
    omega
theorem cover (hw : ∀ w ∈ ws, 0 < w) (hs : St ws s) : ∀ (k : Nat) (ns : List Int), ns.length = k → (∀ n ∈ ns, 1 ≤ n) → ns.sum ≤ 2 * (k : Int) - 1 → ∀ m : Int, 1 ≤ m → m ≤ ns.sum → pTimes ws s m ∈ pSums ws (ns.map (pTimes ws s))
  | 0, ns, hk, _, hsum, m, h1, h2 => by omega
  | k + 1, ns, hk, hn, hsum, m, h1, h2 => by
    by_cases hx : ∃ x ∈ ns, 2 ≤ x
    · obtain ⟨x, hxm, hx2⟩ := hx
      have p := List.perm_cons_erase hxm
      have p2 : ns.Perm (ns.erase x ++ [x]) := p.trans (List.perm_append_singleton x _).symm
      have e := perm_sum p
      rw [List.sum_cons] at e
      have hl : (ns.erase x).length = k := by rw [List.length_erase_of_mem hxm, hk]; rfl
      have hn' : ∀ n ∈ ns.erase x, 1 ≤ n := fun n h => hn n (List.mem_of_mem_erase h)
      have hls := len_sum hn'
      have ih := cover hw hs k (ns.erase x) hl hn' (by push_cast at hsum; omega)
      have es : pSums ws (ns.map (pTimes ws s)) = pSums ws ((ns.erase x).map (pTimes ws s) ++ [pTimes ws s x]) := by
        have := sums_perm hw (p2.map (pTimes ws s)) (mst hw hs)
        rw [List.map_append] at this
        exact this
      rw [es, pSums_snoc]
      have ok := (sums_ok hw (mst hw hs (ns := ns.erase x))).1
      refine (nextS_mem hw ok (tst hw hs x)).mpr ?_
      by_cases hm : m ≤ (ns.erase x).sum
      · exact .inl (ih m h1 hm)
      · by_cases h0 : m = x
        · exact .inr (.inl (by rw [h0]))
        · push_cast at hsum
          exact .inr (.inr ⟨pTimes ws s (m - x), ih (m - x) (by omega) (by omega), by rw [pAdd_timesB hw]; congr 1; omega⟩)
    · have e : ns = List.replicate (k + 1) 1 := List.eq_replicate_iff.mpr ⟨hk, fun n h => by
        have := hn n h
        by_cases h2 : 2 ≤ n
        · exact absurd ⟨n, h, h2⟩ hx
        · omega⟩
      have hs1 : ns.sum ≤ (k + 1 : Nat) := by
        rw [e]
        have key : ∀ j : Nat, (List.replicate j (1 : Int)).sum = j := fun j => by
          induction j with
          | zero => rfl
          | succ j ih => rw [List.replicate_succ, List.sum_cons, ih]; push_cast; omega
        rw [key]
        exact Int.le_refl _
      rw [e]
      exact ones hw hs (k + 1) m h1 (by omega)
end
section
variable {ws : List Int} {row : List (List Int)}
/-- the multiples that a few teller makes -/
def mulL (ws : List Int) (p : List Int × List Int) : List (List Int) := (List.range p.2.sum.toNat).map fun i => pTimes ws p.1 ((i : Nat) + 1)
theorem mul_nodup (hw : OkW ws) {p : List Int × List Int} (hp : p ∈ pTell ws row) : (mulL ws p).Nodup := by
  obtain ⟨hs, _, hn, hk, _⟩ := tell_parts hp
  have hl := len_sum hn
  unfold mulL
  refine List.pairwise_map.mpr (List.Pairwise.imp_of_mem (fun {a c} ha hc hlt => ?_) List.pairwise_lt_range)
  have h2 := List.mem_range.mp hc
  have := times_inj hw.pos' (hw.st _ hs) (hw.ord _ hs).2 (i := a + 1) (j := c + 1) (by omega) (by omega) (by omega)
  push_cast at this
  exact this
theorem mul_eq (hw : OkW ws) (hr : ∀ s ∈ row, St ws s) {p : List Int × List Int} (hp : p ∈ pTell ws row) (hf : fewB row p = true) : sset (mulL ws p) = pSums ws row := by
  obtain ⟨hs, hl, hn, hk, er⟩ := tell_parts hp
  have hst := hw.st _ hs
  have hlen : ∀ y ∈ mulL ws p, y.length = ws.length := fun y hy => by
    obtain ⟨i, _, rfl⟩ := List.mem_map.mp hy
    exact pTimes_length hst.1
  refine asc_unique (sset_asc hlen) (sums_ok hw.pos' hr).2 fun z => ?_
  rw [(sset_mem hlen).1]
  unfold fewB at hf
  rw [decide_eq_true_eq] at hf
  constructor
  · intro hz
    obtain ⟨i, hi, rfl⟩ := List.mem_map.mp hz
    have := List.mem_range.mp hi
    rw [er]
    exact cover hw.pos' hst p.2.length p.2 rfl hn (by rw [hl]; omega) _ (by omega) (by omega)
  · intro hz
    obtain ⟨m, a1, a2, a3⟩ := told_sums hw hp z hz
    exact List.mem_map.mpr ⟨m.toNat - 1, List.mem_range.mpr (by omega), by rw [a3]; congr 1; omega⟩
theorem mul_len (hw : OkW ws) (hr : ∀ s ∈ row, St ws s) {p : List Int × List Int} (hp : p ∈ pTell ws row) (hf : fewB row p = true) : ((pSums ws row).length : Int) = p.2.sum := by
  have e := mul_eq hw hr hp hf
  have hst := hw.st _ (tell_parts hp).1
  have hn := len_sum (tell_parts hp).2.2.1
  have hlen : ∀ y ∈ mulL ws p, y.length = ws.length := fun y hy => by
    obtain ⟨i, _, rfl⟩ := List.mem_map.mp hy
    exact pTimes_length hst.1
  have pm : (mulL ws p).Perm (pSums ws row) := by
    rw [← e]
    exact (List.perm_ext_iff_of_nodup (mul_nodup hw hp) (asc_nodup (sset_asc hlen))).mpr fun z => (sset_mem hlen).1.symm
  rw [← pm.length_eq]
  unfold mulL
  rw [List.length_map, List.length_range]
  omega
/-! ### due -/
def dueB (ws : List Int) (row : List (List Int)) : Bool := decide (pHome ws ∉ pSums ws row) && decide (((pSums ws row).length : Int) ≤ 2 * (row.length : Int) - 2)
theorem due_one (hm : ws ∈ menu) (hr : ∀ s ∈ row, St ws s) (hl : row.length ≤ 10) : ((pTell ws row).filter (fewB row)).length = if dueB ws row = true then 1 else 0 := by
  have hw := menu_okW hm
  by_cases hd : dueB ws row = true
  · rw [if_pos hd]
    unfold dueB at hd
    rw [Bool.and_eq_true, decide_eq_true_eq, decide_eq_true_eq] at hd
    obtain ⟨n, ks, mvs, t, ht⟩ := tabs hm
    exact few_one hw t ht hr hl hd.1 hd.2
  · rw [if_neg hd, List.length_eq_zero_iff, List.filter_eq_nil_iff]
    intro p hp hf
    have := few_due hw hr hp hf
    refine hd ?_
    unfold dueB
    rw [decide_eq_true this.1, decide_eq_true this.2]
    rfl
theorem few_due_eq (hm : ws ∈ menu) (hr : ∀ s ∈ row, St ws s) (hl : row.length ≤ 10) : (pFew ws row).isSome = dueB ws row := by
  have h := due_one hm hr hl
  unfold pFew
  cases hf : (pTell ws row).find? (fewB row) with
  | none =>
    have e : (pTell ws row).filter (fewB row) = [] := List.filter_eq_nil_iff.mpr fun p hp => List.find?_eq_none.mp hf p hp
    rw [e] at h
    by_cases hd : dueB ws row = true
    · rw [if_pos hd] at h
      simp at h
    · rw [Bool.eq_false_iff.mpr hd]
      rfl
  | some p =>
    have e1 := List.mem_of_find?_eq_some hf
    have e2 := List.find?_some hf
    by_cases hd : dueB ws row = true
    · rw [hd]
      rfl
    · rw [if_neg hd, List.length_eq_zero_iff, List.filter_eq_nil_iff] at h
      exact absurd e2 (h p e1)
theorem few_head {p : List Int × List Int} (h : pFew ws row = some p) : ∃ l, (pTell ws row).filter (fewB row) = p :: l := by
  unfold pFew at h
  rw [← List.head?_filter] at h
  cases hl : (pTell ws row).filter (fewB row) with
  | nil => rw [hl] at h; cases h
  | cons a l =>
    rw [hl] at h
    cases h
    exact ⟨l, rfl⟩
end
end E2
end
section
set_option Elab.async false
set_option linter.all false
set_option maxRecDepth 100000
set_option maxHeartbeats 4000000
namespace E2
open PySem PySem.Spec PyProof.Rows L2 DL RD T2
structure Good (ws : List Int) (row : List (List Int)) : Prop where
  m : ws ∈ menu
  ne : ws ≠ []
  few : (pSteps ws).length ≤ 30
  st : ∀ s ∈ row, St ws s
  len : row.length ≤ 10
theorem Good.w {ws : List Int} {row : List (List Int)} (h : Good ws row) : OkW ws := menu_okW h.m
theorem Good.hs {ws : List Int} {row : List (List Int)} (h : Good ws row) : HsW ws := menu_hsW h.m
theorem any_T {x : List Int} (l : List (List Int)) : ((D.pys (l.map T)).any fun z => PyData.eqv z (T x).py) = decide (x ∈ l) := by
  rw [pys_TT, List.any_map, Bool.eq_iff_iff, List.any_eq_true, decide_eq_true_eq]
  constructor
  · rintro ⟨y, hy, e⟩
    have e2 : PyData.eqv (T y).py (T x).py = true := e
    rw [eqv_T, decide_eq_true_eq] at e2
    rw [← e2]
    exact hy
  · intro hm
    refine ⟨_, hm, ?_⟩
    show PyData.eqv (T x).py (T x).py = true
    rw [eqv_T]
    simp
theorem in_T {neg : Bool} {x : List Int} {l : List (List Int)} : dIn neg (T x) (.lst (l.map T)) = some (.bl (xor neg (decide (x ∈ l)))) := by
  unfold dIn
  rw [if_pos (by rw [(sh_T x).sh (by omega), (sh_lst (n := 1) sh_TT).sh (by omega)]; rfl)]
  show some (D.bl (if neg = true then !((D.pys (l.map T)).any fun z => PyData.eqv z (T x).py) else (D.pys (l.map T)).any fun z => PyData.eqv z (T x).py)) = _
  rw [any_T]
  cases neg <;> simp
theorem to_vAnd {f g : Act D} {ρ : DEnv} {p q : Bool} (h : To f ρ (.bl p) ρ) (h2 : p = true → To g ρ (.bl q) ρ) : To (vAnd f g) ρ (.bl (p && q)) ρ := by
  cases p with
  | true => exact to_bind h (to_bind (x := true) rfl (h2 rfl))
  | false => exact to_bind h (to_bind (x := false) rfl rfl)
theorem eqv_refl {a : D} {n : Nat} (h : PyData.eqv a.py a.py = true) (hs : Sh n a) (hn : n ≤ 64) (neg : Bool) : dEq neg a a = some (.bl (!neg)) := by
  unfold dEq
  rw [if_pos ⟨hs.sh hn, hs.sh hn⟩, h]
  cases neg <;> rfl
theorem eqv_tell (p : List Int × List Int) : PyData.eqv (tellD p).py (tellD p).py = true := by
  show PyData.eqv (D.tup [T p.1, T p.2]).py (D.tup [T p.1, T p.2]).py = true
  have h1 := eqv_T p.1 p.1
  have h2 := eqv_T p.2 p.2
  rw [decide_eq_true rfl] at h1 h2
  have e : (D.tup [T p.1, T p.2]).py = .tuple [(T p.1).py, (T p.2).py] := by rw [D.py, D.pys, D.pys, D.pys]
  rw [e, PyData.eqv, PyData.eqvAll, PyData.eqvAll, PyData.eqvAll, h1, h2]
  rfl
theorem sh_tellD (p : List Int × List Int) : Sh 2 (tellD p) := sh_tup fun x hx => by
  rcases List.mem_cons.mp hx with e | hx
  · rw [e]; exact sh_T _
  · rw [List.mem_singleton.mp hx]; exact sh_T _
theorem sh_tells {l : List (List Int × List Int)} : ∀ x ∈ l.map tellD, Sh 2 x := fun x hx => by
  obtain ⟨p, _, rfl⟩ := List.mem_map.mp hx
  exact sh_tellD p
theorem notIn_tell {p : List Int × List Int} {l : List (List Int × List Int)} : dIn true (tellD p) (.lst ((p :: l).map tellD)) = some (.bl false) := by
  unfold dIn
  rw [if_pos (by rw [(sh_tellD p).sh (by omega), (sh_lst (n := 2) sh_tells).sh (by omega)]; rfl)]
  show some (D.bl (!((D.pys (tellD p :: l.map tellD)).any fun z => PyData.eqv z (tellD p).py))) = _
  rw [D.pys, List.any_cons, eqv_tell]
  rfl
theorem dEq_LT (neg : Bool) (a : List (List Int)) : dEq neg (.lst (a.map T)) (.lst (a.map T)) = some (.bl (!neg)) := by
  refine eqv_refl (n := 2) ?_ (sh_lst sh_TT) (by omega) neg
  rw [D.py, PyData.eqv, pys_TT, eqvAll_TT]
  simp
theorem few_teller_eq {ws : List Int} {row : List (List Int)} (h : OkW ws) (hr : ∀ s ∈ row, St ws s) (hl : row.length ≤ 40) : ∃ ρ, F_few_teller [.d (T ws), .d (rowD row)] = .ok (fewD (pFew ws row)) ρ := by
  obtain ⟨ρ1, e1⟩ := h.need
  obtain ⟨ρ2, e2⟩ := need_row_eq hr hl
  obtain ⟨ρ3, e3⟩ := few_eq (row := row) h (by omega)
  unfold F_few_teller g_few_teller
  refine ⟨[some (.d (T ws)), some (.d (rowD row))], fn_ok (ρ := [some (.d (T ws)), some (.d (rowD row))]) rfl ?_⟩
  exact st_drop (to_call (to_cons (to_V (d := T ws) rfl) to_nil) rfl e1) (st_drop (to_call (to_cons (to_V (d := T ws) rfl) (to_cons (to_V (d := rowD row) rfl) to_nil)) rfl e2) (st_last (st_ret (to_call (to_cons (to_V (d := T ws) rfl) (to_cons (to_V (d := rowD row) rfl) to_nil)) rfl e3))))
abbrev lE (sc : D) (r : Rw) (ws : List Int) (row : List (List Int)) (o6 o7 o8 o9 o10 o11 o12 o13 : Option Cell) : DEnv := [some (.d sc), some r.cell, some (.d (T ws)), some (.d (rowD row)), some (.d (.lst ((pSums ws row).map T))), some (.d (T (pHome ws))), o6, o7, o8, o9, o10, o11, o12, o13, none]
def fewsD (ws : List Int) (row : List (List Int)) : D := .lst (((pTell ws row).filter (fewB row)).map tellD)
section
variable {sc : D} {r : Rw} {ws : List Int} {row : List (List Int)} {o6 o7 o8 o9 o10 o11 o12 o13 : Option Cell} {k : GS} {o : Out}
theorem two_len {ρ : DEnv} (h3 : ρ[3]? = some (some (.d (rowD row)))) (hl : row.length ≤ 10) : To (a2 dSub (a2 dMul2 (aC (.int 2)) (aN dLen (aCons (aV 3) aNil))) (aC (.int 2))) ρ (.int (2 * (row.length : Int) - 2)) ρ := by
  refine to_2 (x := .int (2 * row.length)) (to_2 (x := .int 2) to_C (to_N (to_cons (to_V h3) to_nil) (d := .int row.length) ?_) ?_) to_C rfl
  · show some (D.int (row.map T).length) = _
    rw [List.length_map]
  · show dMul2 (.int 2) (.int row.length) = _
    unfold dMul2 dMul
    exact if_pos (by omega)
def gS6 : GS := gSet 6 (vAnd (a2 (dIn true) (aV 5) (aV 4)) (a2 (dCmpI (fun i j => decide (i ≤ j))) (aN dLen (aCons (aV 4) aNil)) (a2 dSub (a2 dMul2 (aC (.int 2)) (aN dLen (aCons (aV 3) aNil))) (aC (.int 2)))))
theorem s6 (h : Good ws row) (e : k (lE sc r ws row (some (.d (.bl (dueB ws row)))) o7 o8 o9 o10 o11 o12 o13) = o) : gSeq gS6 k (lE sc r ws row o6 o7 o8 o9 o10 o11 o12 o13) = o := by
  unfold gS6
  refine st_set (ρ1 := lE sc r ws row o6 o7 o8 o9 o10 o11 o12 o13) (d := .bl (dueB ws row)) (to_vAnd (to_2 (to_V (d := T (pHome ws)) rfl) (to_V (d := .lst ((pSums ws row).map T)) rfl) (by rw [in_T]; simp)) fun _ => to_2 (x := .int (pSums ws row).length) (to_N (to_cons (to_V (d := .lst ((pSums ws row).map T)) rfl) to_nil) ?_) (two_len rfl h.len) rfl) e
  show some (D.int ((pSums ws row).map T).length) = _
  rw [List.length_map]
def gI7 : GS := gIf (cNot (cB (aCall 2 F__law_alike (aCons (aCall 2 F_has_few (aCons (aV 2) (aCons (aV 3) aNil))) (aCons (aV 6) aNil))))) (gRet (aC (.bl false))) gNext
theorem i7 (h : Good ws row) (e : k (lE sc r ws row (some (.d (.bl (dueB ws row)))) o7 o8 o9 o10 o11 o12 o13) = o) : gSeq gI7 k (lE sc r ws row (some (.d (.bl (dueB ws row)))) o7 o8 o9 o10 o11 o12 o13) = o := by
  unfold gI7
  obtain ⟨ρ1, e1⟩ := has_few_eq h.w h.st (by have := h.len; omega)
  rw [few_due_eq h.m h.st h.len] at e1
  obtain ⟨ρ2, e2⟩ := alike_bl (dueB ws row) (dueB ws row)
  rw [decide_eq_true rfl] at e2
  exact st_if_f (to_not (k := true) (to_cB (to_call (to_cons (to_call (to_cons (to_V (d := T ws) rfl) (to_cons (to_V (d := rowD row) rfl) to_nil)) rfl e1) (to_cons (to_V (d := .bl (dueB ws row)) rfl) to_nil)) rfl e2))) (st_next e)
def gP8 : GS := gPar 7 8 (aCons (aCall 2 F_few_teller (aCons (aV 2) (aCons (aV 3) aNil))) (aCons (aCall 2 F__law_tellers (aCons (aV 2) (aCons (aV 3) aNil))) aNil))
theorem p8 (h : Good ws row) (e : k (lE sc r ws row o6 (some (.d (fewD (pFew ws row)))) (some (.d (.lst ((pTell ws row).map tellD)))) o9 o10 o11 o12 o13) = o) : gSeq gP8 k (lE sc r ws row o6 o7 o8 o9 o10 o11 o12 o13) = o := by
  unfold gP8
  obtain ⟨ρ1, e1⟩ := few_teller_eq h.w h.st (by have := h.len; omega)
  obtain ⟨ρ2, e2⟩ := ltellers_eq (row := row) h.w (by have := h.len; omega)
  exact st_par (to_cons (to_call (to_cons (to_V (d := T ws) rfl) (to_cons (to_V (d := rowD row) rfl) to_nil)) rfl e1) (to_cons (to_call (to_cons (to_V (d := T ws) rfl) (to_cons (to_V (d := rowD row) rfl) to_nil)) rfl e2) to_nil)) e
def gS9 : GS := gSet 9 (aLst (aComp [10] (aI (aV 8)) (tgN 10) (cB (a2 (dCmpI (fun i j => decide (i ≤ j))) (aN dSum (aCons (a2 dIx (aV 10) (aC (.int 1))) aNil)) (a2 dSub (a2 dMul2 (aC (.int 2)) (aN dLen (aCons (aV 3) aNil))) (aC (.int 2))))) (aV 10)))
def fewP (row : List (List Int)) : D → Bool
  | .tup [_, .tup ns] => match tIs ns with
    | some n => decide (n.sum ≤ 2 * (row.length : Int) - 2)
    | none => false
  | _ => false
theorem fewP_eq (p : List Int × List Int) : fewP row (tellD p) = fewB row p := by
  show (match tIs (p.2.map .int) with | some n => decide (n.sum ≤ 2 * (row.length : Int) - 2) | none => false) = _
  rw [tIs_ints]
  rfl
theorem s9 (h : Good ws row) (e : k (lE sc r ws row o6 o7 (some (.d (.lst ((pTell ws row).map tellD)))) (some (.d (fewsD ws row))) none o11 o12 o13) = o) : gSeq gS9 k (lE sc r ws row o6 o7 (some (.d (.lst ((pTell ws row).map tellD)))) o9 none o11 o12 o13) = o := by
  unfold gS9
  have hlen : (pTell ws row).length ≤ 400 := Nat.le_trans (List.length_filterMap_le _ _) h.w.few
  have f := to_filter (vs := [10]) (t := tgN 10) (c := cB (a2 (dCmpI (fun i j => decide (i ≤ j))) (aN dSum (aCons (a2 dIx (aV 10) (aC (.int 1))) aNil)) (a2 dSub (a2 dMul2 (aC (.int 2)) (aN dLen (aCons (aV 3) aNil))) (aC (.int 2))))) (f := aV 10)
    (ρ := lE sc r ws row o6 o7 (some (.d (.lst ((pTell ws row).map tellD)))) o9 none o11 o12 o13) (ρ1 := lE sc r ws row o6 o7 (some (.d (.lst ((pTell ws row).map tellD)))) o9 none o11 o12 o13) (fi := aI (aV 8)) (ds := (pTell ws row).map tellD)
    (fewP row) id (to_bind (to_V (d := .lst ((pTell ws row).map tellD)) rfl) (to_lift rfl)) rfl (by rw [List.length_map]; omega) (fun d hd => by
      obtain ⟨p, hp, rfl⟩ := List.mem_map.mp hd
      refine ⟨lE sc r ws row o6 o7 (some (.d (.lst ((pTell ws row).map tellD)))) o9 (some (.d (tellD p))) o11 o12 o13, rfl, ?_, fun _ => to_V rfl, rfl⟩
      rw [fewP_eq]
      exact to_cB (to_2 (to_N (to_cons (to_2 (to_V (d := tellD p) rfl) to_C (d := T p.2) (dIx_tup (i := 1) rfl)) to_nil) (dSum_T p.2)) (two_len rfl h.len) rfl))
  have e5 : (((pTell ws row).map tellD).filter (fewP row)).map id = ((pTell ws row).filter (fewB row)).map tellD := by
    rw [List.map_id, List.filter_map]
    congr 1
    exact List.filter_congr fun p _ => fewP_eq p
  rw [e5] at f
  exact st_set (ρ1 := lE sc r ws row o6 o7 (some (.d (.lst ((pTell ws row).map tellD)))) o9 none o11 o12 o13) (d := fewsD ws row) (to_bind f rfl) e
def gI10 : GS := gIf (cOr (cB (a2 (dEq true) (a2 (dIsN true) (aV 7) (aC .non)) (aV 6))) (cOr (cB (a2 (dEq true) (aN dLen (aCons (aV 9) aNil)) (aN dInt (aCons (aV 6) aNil)))) (cAnd (cB (a2 (dIsN true) (aV 7) (aC .non))) (cB (a2 (dEq true) (aV 7) (a2 dIx (aV 9) (aC (.int 0)))))))) (gRet (aC (.bl false))) gNext
theorem isN_few {f : Option (List Int × List Int)} : dIsN true (fewD f) .non = some (.bl f.isSome) := by cases f <;> rfl
theorem i10 (h : Good ws row) (e : k (lE sc r ws row (some (.d (.bl (dueB ws row)))) (some (.d (fewD (pFew ws row)))) o8 (some (.d (fewsD ws row))) o10 o11 o12 o13) = o) : gSeq gI10 k (lE sc r ws row (some (.d (.bl (dueB ws row)))) (some (.d (fewD (pFew ws row)))) o8 (some (.d (fewsD ws row))) o10 o11 o12 o13) = o := by
  unfold gI10
  let ρ : DEnv := lE sc r ws row (some (.d (.bl (dueB ws row)))) (some (.d (fewD (pFew ws row)))) o8 (some (.d (fewsD ws row))) o10 o11 o12 o13
  have t0 : To (a2 (dIsN true) (aV 7) (aC .non)) ρ (.bl (pFew ws row).isSome) ρ := to_2 (to_V (d := fewD (pFew ws row)) rfl) to_C isN_few
  have t1 : To (cB (a2 (dEq true) (a2 (dIsN true) (aV 7) (aC .non)) (aV 6))) ρ false ρ := to_cB (to_2 t0 (to_V (d := .bl (dueB ws row)) rfl) (by rw [dEq_bl, few_due_eq h.m h.st h.len]; simp))
  have t2 : To (cB (a2 (dEq true) (aN dLen (aCons (aV 9) aNil)) (aN dInt (aCons (aV 6) aNil)))) ρ false ρ := by
    refine to_cB (to_2 (x := .int ((pTell ws row).filter (fewB row)).length) (to_N (to_cons (to_V (d := fewsD ws row) rfl) to_nil) ?_) (to_N (to_cons (to_V (d := .bl (dueB ws row)) rfl) to_nil) (d := .int (if dueB ws row = true then 1 else 0)) rfl) ?_)
    · show some (D.int (((pTell ws row).filter (fewB row)).map tellD).length) = _
      rw [List.length_map]
    · rw [dEq_int, due_one h.m h.st h.len]
      cases dueB ws row <;> rfl
  have t3 : To (cAnd (cB (a2 (dIsN true) (aV 7) (aC .non))) (cB (a2 (dEq true) (aV 7) (a2 dIx (aV 9) (aC (.int 0)))))) ρ false ρ := by
    cases hp : pFew ws row with
    | none =>
      rw [hp] at t0
      exact to_and_f (to_cB t0)
    | some p =>
      rw [hp] at t0
      obtain ⟨l, hl⟩ := few_head hp
      refine to_and_t (to_cB t0) (to_cB (to_2 (x := tellD p) (to_V ?_) (to_2 (x := fewsD ws row) (to_V rfl) to_C (d := tellD p) ?_) (eqv_refl (eqv_tell p) (sh_tellD p) (by omega) true)))
      · show some (some (Cell.d (fewD (pFew ws row)))) = _
        rw [hp]
        rfl
      · unfold fewsD
        rw [hl]
        exact dIx_lst (i := 0) rfl
  exact st_if_f (to_or_f t1 (to_or_f t2 t3)) (st_next e)
def gI11 : GS := gIf (cB (a2 (dIsN true) (aV 7) (aC .non))) (gSeq (gAsg (tgT 2 (tgCons (tgN 11) (tgCons (tgN 12) tgNil))) (aV 7))
    (gSeq (gSet 13 (aLst (aSrt (aLst (aComp [14] (aIN opRange2 (aCons (aC (.int 1)) (aCons (a2 dAdd (aN dSum (aCons (aV 12) aNil)) (aC (.int 1))) aNil))) (tgN 14) cYes (aCall 3 F__law_times (aCons (aV 2) (aCons (aV 11) (aCons (aV 14) aNil)))))))))
    (gIf (cOr (cB (a2 (dEq true) (aV 13) (aV 4))) (cOr (cB (a2 (dEq true) (a1 dLS (aV 13)) (aN dSum (aCons (aV 12) aNil)))) (cNot (cB (aN dIsi (aCons (aV 12) (aCons (aC (.op (.ty "tuple"))) aNil))))))) (gRet (aC (.bl false))) gNext))) gNext
theorem i11 (h : Good ws row) : ∃ a11 a12 a13, ∀ {k : GS} {o : Out}, k (lE sc r ws row o6 (some (.d (fewD (pFew ws row)))) o8 o9 o10 a11 a12 a13) = o → gSeq gI11 k (lE sc r ws row o6 (some (.d (fewD (pFew ws row)))) o8 o9 o10 o11 o12 o13) = o := by
  unfold gI11
  have t0 : To (a2 (dIsN true) (aV 7) (aC .non)) (lE sc r ws row o6 (some (.d (fewD (pFew ws row)))) o8 o9 o10 o11 o12 o13) (.bl (pFew ws row).isSome) (lE sc r ws row o6 (some (.d (fewD (pFew ws row)))) o8 o9 o10 o11 o12 o13) := to_2 (to_V (d := fewD (pFew ws row)) rfl) to_C isN_few
  cases hp : pFew ws row with
  | none =>
    rw [hp] at t0
    exact ⟨o11, o12, o13, fun {k o} e => st_if_f (to_cB t0) (st_next e)⟩
  | some p =>
    rw [hp] at t0
    have hm : p ∈ pTell ws row := List.mem_of_find?_eq_some hp
    have hf : fewB row p = true := List.find?_some hp
    obtain ⟨hs, hl, hn, hk, er⟩ := tell_parts hm
    have hst := h.w.st _ hs
    have hsum := len_sum hn
    have hK := (h.w.ord _ hs).1
    let ρ1 : DEnv := lE sc r ws row o6 (some (.d (tellD p))) o8 o9 o10 (some (.d (T p.1))) (some (.d (T p.2))) o13
    let ρ2 : DEnv := lE sc r ws row o6 (some (.d (tellD p))) o8 o9 o10 (some (.d (T p.1))) (some (.d (T p.2))) (some (.d (.lst ((pSums ws row).map T))))
    have tc : To (aComp [14] (aIN opRange2 (aCons (aC (.int 1)) (aCons (a2 dAdd (aN dSum (aCons (aV 12) aNil)) (aC (.int 1))) aNil))) (tgN 14) cYes (aCall 3 F__law_times (aCons (aV 2) (aCons (aV 11) (aCons (aV 14) aNil))))) ρ1 ((mulL ws p).map T) ρ1 := by
      have := to_map (vs := [14]) (t := tgN 14) (f := aCall 3 F__law_times (aCons (aV 2) (aCons (aV 11) (aCons (aV 14) aNil)))) (ρ := ρ1) (ρ1 := ρ1) (fi := aIN opRange2 (aCons (aC (.int 1)) (aCons (a2 dAdd (aN dSum (aCons (aV 12) aNil)) (aC (.int 1))) aNil))) (ds := (List.range p.2.sum.toNat).map fun i => D.int ((i : Nat) + 1))
        (fun d => match d with | .int n => T (pTimes ws p.1 n) | _ => .non) (to_bind (x := [.int 1, .int (p.2.sum + 1)]) (to_cons to_C (to_cons (to_2 (to_N (to_cons (to_V (d := T p.2) rfl) to_nil) (dSum_T p.2)) to_C rfl) to_nil)) (to_lift (by
          have := range2_one (k := p.2.sum.toNat) (by omega)
          rw [Int.toNat_of_nonneg (by omega)] at this
          exact this))) rfl (by rw [List.length_map, List.length_range]; omega) (fun d hd => by
          obtain ⟨i, hi, rfl⟩ := List.mem_map.mp hd
          exact ⟨[some (.d sc), some r.cell, some (.d (T ws)), some (.d (rowD row)), some (.d (.lst ((pSums ws row).map T))), some (.d (T (pHome ws))), o6, some (.d (tellD p)), o8, o9, o10, some (.d (T p.1)), some (.d (T p.2)), o13, some (.d (.int ((i : Nat) + 1)))], rfl, to_call (to_cons (to_V (d := T ws) rfl) (to_cons (to_V (d := T p.1) rfl) (to_cons (to_V (d := .int ((i : Nat) + 1)) rfl) to_nil))) rfl (ltimes_eq h.w.nz (by have := h.w.len; omega) hst.1 fun x hx => by have := hst.bound (fun w hw => (h.w.ge w hw).2) x hx; omega), rfl⟩)
      rw [List.map_map] at this
      unfold mulL
      rw [List.map_map]
      exact this
    have hml : (mulL ws p).length ≤ 400 := by unfold mulL; rw [List.length_map, List.length_range]; omega
    have tl : To (aLst (aSrt (aLst (aComp [14] (aIN opRange2 (aCons (aC (.int 1)) (aCons (a2 dAdd (aN dSum (aCons (aV 12) aNil)) (aC (.int 1))) aNil))) (tgN 14) cYes (aCall 3 F__law_times (aCons (aV 2) (aCons (aV 11) (aCons (aV 14) aNil)))))))) ρ1 (.lst ((pSums ws row).map T)) ρ1 := by
      have tc' : To (aLst (aComp [14] (aIN opRange2 (aCons (aC (.int 1)) (aCons (a2 dAdd (aN dSum (aCons (aV 12) aNil)) (aC (.int 1))) aNil))) (tgN 14) cYes (aCall 3 F__law_times (aCons (aV 2) (aCons (aV 11) (aCons (aV 14) aNil)))))) ρ1 (.lst ((mulL ws p).map T)) ρ1 := to_bind tc rfl
      refine to_bind (x := (pSums ws row).map T) (to_bind tc' (to_lift ?_)) rfl
      show dSrt ((mulL ws p).map T) = _
      rw [dSrt_T (d := ws.length) (fun y hy => by obtain ⟨i, _, rfl⟩ := List.mem_map.mp hy; exact pTimes_length hst.1) (List.length_pos_iff.mpr h.ne) (mul_nodup h.w hm) (by omega), mul_eq h.w h.st hm hf]
    have so := sums_ok h.w.pos' h.st
    have hlenS := mul_len h.w h.st hm hf
    have hfe := hf
    unfold fewB at hfe
    rw [decide_eq_true_eq] at hfe
    have ss : sset (pSums ws row) = pSums ws row := asc_unique (sset_asc (d := ws.length) fun y hy => (so.1 y hy).1) so.2 fun z => (sset_mem (d := ws.length) fun y hy => (so.1 y hy).1).1
    have hne : pSums ws row ≠ [] := fun e0 => by
      rw [e0] at hlenS
      rw [List.length_nil] at hlenS
      have := h.len
      omega
    have tls : dLS (.lst ((pSums ws row).map T)) = some (.int (pSums ws row).length) := by
      have := dLS_T (l := pSums ws row) (ssOk_St h.w h.ne (by have := h.len; omega) hne so.1)
      rw [ss] at this
      exact this
    have t1 : To (cB (a2 (dEq true) (aV 13) (aV 4))) ρ2 false ρ2 := to_cB (to_2 (to_V (d := .lst ((pSums ws row).map T)) rfl) (to_V (d := .lst ((pSums ws row).map T)) rfl) (dEq_LT true _))
    have t2 : To (cB (a2 (dEq true) (a1 dLS (aV 13)) (aN dSum (aCons (aV 12) aNil)))) ρ2 false ρ2 := to_cB (to_2 (to_1 (to_V (d := .lst ((pSums ws row).map T)) rfl) tls) (to_N (to_cons (to_V (d := T p.2) rfl) to_nil) (dSum_T p.2)) (by rw [dEq_int, hlenS]; simp))
    have t3 : To (cNot (cB (aN dIsi (aCons (aV 12) (aCons (aC (.op (.ty "tuple"))) aNil))))) ρ2 false ρ2 := to_not (k := true) (to_cB (to_N (to_cons (to_V (d := T p.2) rfl) (to_cons to_C to_nil)) (isi_tuple rfl)))
    refine ⟨some (.d (T p.1)), some (.d (T p.2)), some (.d (.lst ((pSums ws row).map T))), fun {k o} e => ?_⟩
    refine st_if_t (to_cB t0) (st_assoc (st_asg (ρ1 := lE sc r ws row o6 (some (.d (tellD p))) o8 o9 o10 o11 o12 o13) (d := tellD p) (to_V rfl) rfl (st_assoc (st_set (ρ := ρ1) tl ?_))))
    exact st_if_f (ρ := ρ2) (to_or_f t1 (to_or_f t2 t3)) (st_next e)
def pairD (ws : List Int) (row : List (List Int)) : D := match pTell ws row with
  | p :: _ => tellD p
  | [] => .non
def gS12 : GS := gSet 10 (aCall 2 F_teller (aCons (aV 2) (aCons (aV 3) aNil)))
theorem s12 (h : Good ws row) (e : k (lE sc r ws row o6 o7 o8 o9 (some (.d (pairD ws row))) o11 o12 o13) = o) : gSeq gS12 k (lE sc r ws row o6 o7 o8 o9 o10 o11 o12 o13) = o := by
  unfold gS12
  obtain ⟨ρ1, e1⟩ := teller_eq (row := row) h.w h.st (by have := h.len; omega)
  exact st_set (ρ1 := lE sc r ws row o6 o7 o8 o9 o10 o11 o12 o13) (d := pairD ws row) (to_call (to_cons (to_V (d := T ws) rfl) (to_cons (to_V (d := rowD row) rfl) to_nil)) rfl e1) e
def gI13 : GS := gIf (cOr (cB (a2 (dEq true) (a2 (dIsN false) (aV 10) (aC .non)) (a2 (dEq false) (aV 8) (aLst (fLst aNil))))) (cAnd (cB (a2 (dIsN true) (aV 10) (aC .non))) (cB (a2 (dIn true) (aV 10) (aV 8))))) (gRet (aC (.bl false))) gNext
theorem i13 (e : k (lE sc r ws row o6 o7 (some (.d (.lst ((pTell ws row).map tellD)))) o9 (some (.d (pairD ws row))) o11 o12 o13) = o) : gSeq gI13 k (lE sc r ws row o6 o7 (some (.d (.lst ((pTell ws row).map tellD)))) o9 (some (.d (pairD ws row))) o11 o12 o13) = o := by
  unfold gI13
  let ρ : DEnv := lE sc r ws row o6 o7 (some (.d (.lst ((pTell ws row).map tellD)))) o9 (some (.d (pairD ws row))) o11 o12 o13
  have t1 : To (cB (a2 (dEq true) (a2 (dIsN false) (aV 10) (aC .non)) (a2 (dEq false) (aV 8) (aLst (fLst aNil))))) ρ false ρ := by
    refine to_cB (to_2 (x := .bl (decide (pTell ws row = []))) (y := .bl (decide (pTell ws row = []))) (to_2 (to_V (d := pairD ws row) rfl) to_C ?_) (to_2 (to_V (d := .lst ((pTell ws row).map tellD)) rfl) (y := .lst []) rfl ?_) ?_)
    · unfold pairD
      cases pTell ws row <;> rfl
    · rw [dEq_nil (n := 2) false sh_tells (by omega)]
      cases pTell ws row <;> simp
    · rw [dEq_bl]
      simp
  have t2 : To (cAnd (cB (a2 (dIsN true) (aV 10) (aC .non))) (cB (a2 (dIn true) (aV 10) (aV 8)))) ρ false ρ := by
    cases hp : pTell ws row with
    | nil =>
      refine to_and_f (to_cB (to_2 (x := .non) (to_V ?_) to_C rfl))
      show some (some (Cell.d (pairD ws row))) = _
      unfold pairD
      rw [hp]
    | cons p l =>
      have e1 : pairD ws row = tellD p := by unfold pairD; rw [hp]
      refine to_and_t (to_cB (to_2 (x := tellD p) (to_V ?_) to_C rfl)) (to_cB (to_2 (x := tellD p) (y := .lst ((p :: l).map tellD)) (to_V ?_) (to_V ?_) notIn_tell))
      · show some (some (Cell.d (pairD ws row))) = _
        rw [e1]
      · show some (some (Cell.d (pairD ws row))) = _
        rw [e1]
      · show some (some (Cell.d (.lst ((pTell ws row).map tellD)))) = _
        rw [hp]
  exact st_if_f (to_or_f t1 t2) (st_next e)
def gI14 : GS := gIf (cAnd (cB (a2 (dIsN true) (aV 10) (aC .non))) (cAnd (cB (a2 (dEq true) (aV 3) (aN dTup aNil))) (cOr (cB (a2 (dIsB true) (aCall 2 F_never_home (aCons (aV 2) (aCons (aV 3) aNil))) (aC (.bl true)))) (cB (a2 (dIn false) (aV 5) (aV 4)))))) (gRet (aC (.bl false))) gNext
theorem i14 (h : Good ws row) (e : k (lE sc r ws row o6 o7 o8 o9 (some (.d (pairD ws row))) o11 o12 o13) = o) : gSeq gI14 k (lE sc r ws row o6 o7 o8 o9 (some (.d (pairD ws row))) o11 o12 o13) = o := by
  unfold gI14
  let ρ : DEnv := lE sc r ws row o6 o7 o8 o9 (some (.d (pairD ws row))) o11 o12 o13
  obtain ⟨ρ1, e1⟩ := never_eq h.w h.hs h.ne h.st (by have := h.len; omega)
  cases hp : pTell ws row with
  | nil =>
    refine st_if_f (ρ := ρ) (ρ1 := ρ) (to_and_f (to_cB (to_2 (x := .non) (to_V ?_) to_C rfl))) (st_next e)
    show some (some (Cell.d (pairD ws row))) = _
    unfold pairD
    rw [hp]
  | cons p l =>
    have ep : pairD ws row = tellD p := by unfold pairD; rw [hp]
    have ho := told_out h.w (p := p) (row := row) (by rw [hp]; exact List.mem_cons_self)
    rw [decide_eq_true ho] at e1
    have t1 : To (cB (a2 (dIsN true) (aV 10) (aC .non))) ρ true ρ := to_cB (to_2 (x := tellD p) (to_V (by show some (some (Cell.d (pairD ws row))) = _; rw [ep])) to_C rfl)
    have t2 : To (cB (a2 (dEq true) (aV 3) (aN dTup aNil))) ρ (!(decide (row.map T = []))) ρ := to_cB (to_2 (to_V (d := rowD row) rfl) (to_N to_nil rfl) (by rw [dEq_nilT (n := 1) true sh_TT (by omega), Bool.true_xor]))
    have t3 : To (cOr (cB (a2 (dIsB true) (aCall 2 F_never_home (aCons (aV 2) (aCons (aV 3) aNil))) (aC (.bl true)))) (cB (a2 (dIn false) (aV 5) (aV 4)))) ρ false ρ :=
      to_or_f (to_cB (to_2 (to_call (to_cons (to_V (d := T ws) rfl) (to_cons (to_V (d := rowD row) rfl) to_nil)) rfl e1) to_C rfl)) (to_cB (to_2 (to_V (d := T (pHome ws)) rfl) (to_V (d := .lst ((pSums ws row).map T)) rfl) (by rw [in_T, decide_eq_false ho]; rfl)))
    have t4 : To (cAnd (cB (a2 (dEq true) (aV 3) (aN dTup aNil))) (cOr (cB (a2 (dIsB true) (aCall 2 F_never_home (aCons (aV 2) (aCons (aV 3) aNil))) (aC (.bl true)))) (cB (a2 (dIn false) (aV 5) (aV 4))))) ρ false ρ := by
      cases hd : decide (row.map T = []) with
      | true => rw [hd] at t2; exact to_and_f t2
      | false => rw [hd] at t2; exact to_and_t t2 t3
    exact st_if_f (ρ := ρ) (ρ1 := ρ) (to_and_t t1 t4) (st_next e)
def gR15 : GS := gRet (vAnd (a2 (dIsB false) (aCall 3 F_shows_teller (aCons (aV 2) (aCons (aV 3) (aCons (aV 10) aNil)))) (aC (.bl true))) (a2 (dEq false) (aCall 2 F_sums (aCons (aV 2) (aCons (aV 3) aNil))) (aN dTuple (aCons (aV 4) aNil))))
theorem shows_pair (h : Good ws row) : ∃ ρ, F_shows_teller [.d (T ws), .d (rowD row), .d (pairD ws row)] = .ok (.bl true) ρ := by
  unfold pairD
  cases hp : pTell ws row with
  | nil =>
    obtain ⟨ρ, e⟩ := shows_none (row := row) h.w h.st (by have := h.len; omega)
    rw [decide_eq_true hp] at e
    exact ⟨ρ, e⟩
  | cons p l =>
    have hm : p ∈ pTell ws row := by rw [hp]; exact List.mem_cons_self
    obtain ⟨hs, hl, hn, hk, er⟩ := tell_parts hm
    have := dt_ints h.w hs hl
    have ht : tellB ws row p.1 p.2 = true := by
      unfold tellB
      rw [Bool.and_eq_true, Bool.and_eq_true, List.all_eq_true, decide_eq_true_eq]
      refine ⟨fun n hnm => ?_, hk, ?_⟩
      · have := le_sum hn n hnm
        rw [Bool.and_eq_true, decide_eq_true_eq, decide_eq_true_eq]
        exact ⟨hn n hnm, by omega⟩
      · rw [zip_map_eq hl, decide_eq_true_eq]
        exact er.symm
    rw [ht] at this
    exact shows_eq h.w h.st (by have := h.len; omega) rfl this
theorem r15 (h : Good ws row) : gR15 (lE sc r ws row o6 o7 o8 o9 (some (.d (pairD ws row))) o11 o12 o13) = .rt (.bl true) (lE sc r ws row o6 o7 o8 o9 (some (.d (pairD ws row))) o11 o12 o13) := by
  unfold gR15
  obtain ⟨ρ1, e1⟩ := shows_pair h
  obtain ⟨ρ2, e2⟩ := sums_eq h.w h.hs h.ne h.st (by have := h.len; omega)
  exact st_last (st_ret (to_vAnd (p := true) (q := true) (to_2 (to_call (to_cons (to_V (d := T ws) rfl) (to_cons (to_V (d := rowD row) rfl) (to_cons (to_V (d := pairD ws row) rfl) to_nil))) rfl e1) to_C rfl) fun _ => to_2 (x := rowD (pSums ws row)) (to_call (to_cons (to_V (d := T ws) rfl) (to_cons (to_V (d := rowD row) rfl) to_nil)) rfl e2) (to_N (to_cons (to_V (d := .lst ((pSums ws row).map T)) rfl) to_nil) (d := rowD (pSums ws row)) rfl) (by rw [dEq_TT]; simp)))
end
theorem menu_ne : ∀ ws ∈ menu, ws ≠ [] ∧ (pSteps ws).length ≤ 30 := fun ws h => by
  have : menu.all (fun ws => decide (ws ≠ []) && decide ((pSteps ws).length ≤ 30)) = true := by decide +kernel
  have q := List.all_eq_true.mp this ws h
  rw [Bool.and_eq_true, decide_eq_true_eq, decide_eq_true_eq] at q
  exact q
theorem chain (xs : List Int) (c0 : Option Cell) (hc : c0 = some (.l (xs.map .int)) ∨ c0 = some (.d (.lst (xs.map .int)))) : ∃ ρ, g_law [c0, none, none, none, none, none, none, none, none, none, none, none, none, none, none] = .rt (.bl true) ρ := by
  have hr0 : Rw.ok ⟨xs, 0, 5602, 0⟩ := ⟨by show (-1 : Int) < 5602; decide, by show (5602 : Int) < 2147483647; decide⟩
  obtain ⟨ws, r1, ρ1, hr1, hws, e1⟩ := lwheels_eq ⟨xs, 0, 5602, 0⟩ hr0
  have hw := menu_okW hws
  obtain ⟨row, r2, ρ2, hr2, hrow, hlen, e2⟩ := lrow_eq hw r1 hr1 (most := 10) (by omega)
  have h : Good ws row := ⟨hws, (menu_ne ws hws).1, (menu_ne ws hws).2, hrow, hlen⟩
  obtain ⟨ρ3, e3⟩ := lsums_eq h.w h.ne h.few h.st
  have h0 : ∀ k : GS, gSeq (gFrz 0 (gOwn 1 (fLst (aCons (aV 0) (aCons (aC (.int 0)) (aCons (aC (.int 5602)) (aCons (aC (.int 0)) aNil))))))) k [c0, none, none, none, none, none, none, none, none, none, none, none, none, none, none] = k [some (.d (.lst (xs.map .int))), some (Rw.cell ⟨xs, 0, 5602, 0⟩), none, none, none, none, none, none, none, none, none, none, none, none, none] := fun k => by
    rcases hc with rfl | rfl
    · exact seq_nx rfl rfl
    · exact seq_nx rfl rfl
  have go : ∃ ρ, gSeq gS6 (gSeq gI7 (gSeq gP8 (gSeq gS9 (gSeq gI10 (gSeq gI11 (gSeq gS12 (gSeq gI13 (gSeq gI14 gR15)))))))) (lE (.lst (xs.map .int)) r2 ws row none none none none none none none none) = .rt (.bl true) ρ := by
    obtain ⟨a, b, c, g11⟩ := i11 (sc := .lst (xs.map .int)) (r := r2) (o6 := some (.d (.bl (dueB ws row)))) (o8 := some (.d (.lst ((pTell ws row).map tellD)))) (o9 := some (.d (fewsD ws row))) (o10 := none) (o11 := none) (o12 := none) (o13 := none) h
    exact ⟨_, s6 h (i7 h (p8 h (s9 h (i10 h (g11 (s12 h (i13 (i14 h (r15 h)))))))))⟩
  obtain ⟨ρ, eg⟩ := go
  refine ⟨ρ, ?_⟩
  unfold g_law
  refine (h0 _).trans ?_
  refine st_set (d := T ws) (ρ1 := [some (.d (.lst (xs.map .int))), some r1.cell, none, none, none, none, none, none, none, none, none, none, none, none, none]) (to_callO2 (i := 1) rfl to_nil rfl rfl e1 rfl) ?_
  refine st_set (d := rowD row) (ρ1 := [some (.d (.lst (xs.map .int))), some r2.cell, some (.d (T ws)), none, none, none, none, none, none, none, none, none, none, none, none]) (to_callO2 (i := 1) rfl (to_cons (to_V (d := T ws) rfl) (to_cons to_C to_nil)) rfl rfl e2 rfl) ?_
  refine st_par (d := .lst ((pSums ws row).map T)) (e := T (pHome ws)) (ρ1 := [some (.d (.lst (xs.map .int))), some r2.cell, some (.d (T ws)), some (.d (rowD row)), none, none, none, none, none, none, none, none, none, none, none]) (to_cons (to_call (to_cons (to_V (d := T ws) rfl) (to_cons (to_V (d := rowD row) rfl) to_nil)) rfl e3) (to_cons (to_call (to_cons (to_V (d := T ws) rfl) to_nil) rfl (lhome_eq (by have := h.w.len; omega))) to_nil)) ?_
  exact eg
theorem law_1 (xs : List Int) : ∃ ρ, F_law [.l (xs.map .int)] = .ok (.bl true) ρ := by
  obtain ⟨ρ, e⟩ := chain xs _ (.inl rfl)
  exact ⟨ρ, fn_ok rfl e⟩
theorem law_2 (xs : List Int) : ∃ ρ, F_law [.d (.lst (xs.map .int))] = .ok (.bl true) ρ := by
  obtain ⟨ρ, e⟩ := chain xs _ (.inr rfl)
  exact ⟨ρ, fn_ok rfl e⟩
end E2
end
section
set_option Elab.async false
set_option linter.all false
set_option maxRecDepth 100000
set_option maxHeartbeats 0
namespace H2
open PySem PySem.Spec PyProof.Rows L2 DL RD T2
def dd__law_taken : He.DefD := ⟨("_law_taken", none), "_law_taken", "_law_taken", defArgs s_law_taken, defBody s_law_taken, defScope s_law_taken, [], []⟩
def dd__law_pick : He.DefD := ⟨("_law_pick", none), "_law_pick", "_law_pick", defArgs s_law_pick, defBody s_law_pick, defScope s_law_pick, [], []⟩
def dd__law_wheels : He.DefD := ⟨("_law_wheels", none), "_law_wheels", "_law_wheels", defArgs s_law_wheels, defBody s_law_wheels, defScope s_law_wheels, [], []⟩
def dd__law_steps : He.DefD := ⟨("_law_steps", none), "_law_steps", "_law_steps", defArgs s_law_steps, defBody s_law_steps, defScope s_law_steps, [], []⟩
def dd__law_times : He.DefD := ⟨("_law_times", none), "_law_times", "_law_times", defArgs s_law_times, defBody s_law_times, defScope s_law_times, [], []⟩
def dd__law_row : He.DefD := ⟨("_law_row", none), "_law_row", "_law_row", defArgs s_law_row, defBody s_law_row, defScope s_law_row, [], []⟩
def dd_size_of : He.DefD := ⟨("size_of", none), "size_of", "size_of", defArgs ssize_of, defBody ssize_of, defScope ssize_of, [], []⟩
def dd_is_number : He.DefD := ⟨("is_number", none), "is_number", "is_number", defArgs sis_number, defBody sis_number, defScope sis_number, [], []⟩
def dd_need_wheels : He.DefD := ⟨("need_wheels", none), "need_wheels", "need_wheels", defArgs sneed_wheels, defBody sneed_wheels, defScope sneed_wheels, [], []⟩
def dd_is_step : He.DefD := ⟨("is_step", none), "is_step", "is_step", defArgs sis_step, defBody sis_step, defScope sis_step, [], []⟩
def dd_need_row : He.DefD := ⟨("need_row", none), "need_row", "need_row", defArgs sneed_row, defBody sneed_row, defScope sneed_row, [], []⟩
def dd_all_steps : He.DefD := ⟨("all_steps", none), "all_steps", "all_steps", defArgs sall_steps, defBody sall_steps, defScope sall_steps, [], []⟩
def dd_home : He.DefD := ⟨("home", none), "home", "home", defArgs shome, defBody shome, defScope shome, [], []⟩
def dd_added : He.DefD := ⟨("added", none), "added", "added", defArgs sadded, defBody sadded, defScope sadded, [], []⟩
def dd_numbers_by : He.DefD := ⟨("numbers_by", none), "numbers_by", "numbers_by", defArgs snumbers_by, defBody snumbers_by, defScope snumbers_by, [], []⟩
def dd_order_of : He.DefD := ⟨("order_of", none), "order_of", "order_of", defArgs sorder_of, defBody sorder_of, defScope sorder_of, [], []⟩
def dd_tellers_of : He.DefD := ⟨("tellers_of", none), "tellers_of", "tellers_of", defArgs stellers_of, defBody stellers_of, defScope stellers_of, [], []⟩
def dd_teller : He.DefD := ⟨("teller", none), "teller", "teller", defArgs steller, defBody steller, defScope steller, [], []⟩
def dd__law_added : He.DefD := ⟨("_law_added", none), "_law_added", "_law_added", defArgs s_law_added, defBody s_law_added, defScope s_law_added, [], []⟩
def dd__law_sums : He.DefD := ⟨("_law_sums", none), "_law_sums", "_law_sums", defArgs s_law_sums, defBody s_law_sums, defScope s_law_sums, [], []⟩
def dd__law_home : He.DefD := ⟨("_law_home", none), "_law_home", "_law_home", defArgs s_law_home, defBody s_law_home, defScope s_law_home, [], []⟩
def dd__law_alike : He.DefD := ⟨("_law_alike", none), "_law_alike", "_law_alike", defArgs s_law_alike, defBody s_law_alike, defScope s_law_alike, [], []⟩
def dd_few_of : He.DefD := ⟨("few_of", none), "few_of", "few_of", defArgs sfew_of, defBody sfew_of, defScope sfew_of, [], []⟩
def dd_few_teller : He.DefD := ⟨("few_teller", none), "few_teller", "few_teller", defArgs sfew_teller, defBody sfew_teller, defScope sfew_teller, [], []⟩
def dd__law_order : He.DefD := ⟨("_law_order", none), "_law_order", "_law_order", defArgs s_law_order, defBody s_law_order, defScope s_law_order, [], []⟩
def dd__law_tellers : He.DefD := ⟨("_law_tellers", none), "_law_tellers", "_law_tellers", defArgs s_law_tellers, defBody s_law_tellers, defScope s_law_tellers, [], []⟩
def dd_has_few : He.DefD := ⟨("has_few", none), "has_few", "has_few", defArgs shas_few, defBody shas_few, defScope shas_few, [], []⟩
def dd_times : He.DefD := ⟨("times", none), "times", "times", defArgs stimes, defBody stimes, defScope stimes, [], []⟩
def dd_does_tell : He.DefD := ⟨("does_tell", none), "does_tell", "does_tell", defArgs sdoes_tell, defBody sdoes_tell, defScope sdoes_tell, [], []⟩
def dd_shows_teller : He.DefD := ⟨("shows_teller", none), "shows_teller", "shows_teller", defArgs sshows_teller, defBody sshows_teller, defScope sshows_teller, [], []⟩
def dd_sums_of : He.DefD := ⟨("sums_of", none), "sums_of", "sums_of", defArgs ssums_of, defBody ssums_of, defScope ssums_of, [], []⟩
def dd_sums : He.DefD := ⟨("sums", none), "sums", "sums", defArgs ssums, defBody ssums, defScope ssums, [], []⟩
def dd_stays_out : He.DefD := ⟨("stays_out", none), "stays_out", "stays_out", defArgs sstays_out, defBody sstays_out, defScope sstays_out, [], []⟩
def dd_never_home : He.DefD := ⟨("never_home", none), "never_home", "never_home", defArgs snever_home, defBody snever_home, defScope snever_home, [], []⟩
def dd_law : He.DefD := ⟨("law", none), "law", "law", defArgs slaw, defBody slaw, defScope slaw, [], []⟩
def fn : List He.DefD := ([dd__law_taken, dd__law_pick, dd__law_wheels, dd__law_steps, dd__law_times, dd__law_row, dd_size_of, dd_is_number, dd_need_wheels, dd_is_step, dd_need_row, dd_all_steps, dd_home, dd_added, dd_numbers_by, dd_order_of, dd_tellers_of, dd_teller, dd__law_added, dd__law_sums, dd__law_home, dd__law_alike, dd_few_of, dd_few_teller, dd__law_order, dd__law_tellers, dd_has_few, dd_times, dd_does_tell, dd_shows_teller] : List He.DefD) ++ ([dd_sums_of, dd_sums, dd_stays_out, dd_never_home, dd_law] : List He.DefD)
def fa : List He.Fa := ([.glo "_law_taken", .glo "_law_pick", .glo "_law_wheels", .glo "_law_steps", .glo "_law_times", .glo "_law_row", .glo "size_of", .glo "is_number", .glo "need_wheels", .glo "is_step", .glo "need_row", .glo "all_steps", .glo "home", .glo "added", .glo "numbers_by", .glo "order_of", .glo "tellers_of", .glo "teller", .glo "_law_added", .glo "_law_sums", .glo "_law_home", .glo "_law_alike", .glo "few_of", .glo "few_teller", .glo "_law_order", .glo "_law_tellers", .glo "has_few", .glo "times", .glo "does_tell", .glo "shows_teller"] : List He.Fa) ++ ([.glo "sums_of", .glo "sums", .glo "stays_out", .glo "never_home", .glo "law", .free "all", .free "bool", .free "dict", .free "enumerate", .free "int", .free "isinstance", .free "len", .free "list", .free "range", .free "set", .free "sorted", .free "str", .free "sum", .free "tuple", .free "zip", .int "MOST_PLACES" 400, .int "MOST_ROW" 40, .int "MOST_WHEELS" 3] : List He.Fa)
def tf : List He.Defn := ([("is_step", none), ("does_tell", none)] : List He.Defn)
def notLst (o : Obj) : Bool := match o.cls with
  | .type c => !decide (c = "list")
  | _ => true
def ex (K : PySem.W.Frag) : Bool := K.all fun q => notLst q.2
abbrev R : PySem.W.OpenRow := PySem.W.OpenLaw.row PySem.Challenge.rw_nolothome_k02_whole_few_sums
abbrev hk : PySem.W.Hook := He.hookX 4 fa fn [] tf ex
def ob (s : PySem.W.SharedT) : He.AlX := He.obsX 4 fa fn [] tf ex (HandSHeadRun.getT s)
theorem ob_eq (s : PySem.W.SharedT) : ob s = hk.obs s.abs := He.obsX_eq (HandSHeadRun.getT_eq s)
def names : List PySem.Str := (["StepError", "BadWheels", "BadRow", "MOST_WHEELS", "MOST_PLACES", "MOST_ROW", "is_number", "need_wheels", "size_of", "is_step", "need_row", "home", "added", "times", "order_of", "all_steps", "numbers_by", "tellers_of", "teller", "does_tell", "shows_teller", "few_of", "few_teller", "has_few", "sums_of", "sums", "stays_out", "never_home", "_law_taken", "_law_pick"] : List PySem.Str) ++ (["_law_alike", "_law_added", "_law_home", "_law_sums", "_law_steps", "_law_times", "_law_order", "_law_wheels", "_law_row", "_law_tellers"] : List PySem.Str)
theorem run (w : World) : HandSHeadRun.RunEq R (PySem.W.view R.prog [45]) hk ob 40000 names w := by
  intro os
  kernel_rfl
end H2
end
section
set_option Elab.async false
set_option linter.all false
set_option maxRecDepth 100000
set_option maxHeartbeats 0
namespace H2
open PySem PySem.Spec PyProof.Rows L2 DL RD T2
theorem noLst {K : PySem.W.Frag} (h : ex K = true) {a : Addr} {o : Obj} (e : K.lookup a = some o) (c : o.cls = .type "list") : False := by
  have := List.all_eq_true.mp h _ (He.lookup_mem e)
  unfold notLst at this
  rw [c] at this
  exact absurd this (by decide)
theorem facts {w : World} {K : PySem.W.Frag} {h : Heap} {mg : Str → Option Value} {f : Addr} (X : K.In h) (G : h.Ns mainGlobals mg) (hfa : mg ("law" : Str) = some (.ref f)) (c : He.SaysX fa fn [] tf ex w h K) : LamX.LawAtS PySem.Challenge.rw_nolothome_k02_whole_few_sums w K (L2.CX (PySem.Challenge.rw_nolothome_k02_whole_few_sums).prog w) 62 63 "_law_script" mg f h := by
  have cd := c.t.d
  have FA : ∀ q : He.Fa, q ∈ fa → q.ok K = true := fun q hq => cd.facts hq
  obtain ⟨fd__law_taken, D__law_taken⟩ := cd.def_ 0 (d := dd__law_taken) rfl
  have E__law_taken : Fun K "_law_taken" "_law_taken" s_law_taken (He.fAd K ("_law_taken", none)) fd__law_taken := fun_of (st := s_law_taken) D__law_taken
  have m__law_taken : mg "_law_taken" = some (.ref (He.fAd K ("_law_taken", none))) := He.glo_ok X G (cd.fact 0 (f := .glo "_law_taken") rfl)
  obtain ⟨fd__law_pick, D__law_pick⟩ := cd.def_ 1 (d := dd__law_pick) rfl
  have E__law_pick : Fun K "_law_pick" "_law_pick" s_law_pick (He.fAd K ("_law_pick", none)) fd__law_pick := fun_of (st := s_law_pick) D__law_pick
  have m__law_pick : mg "_law_pick" = some (.ref (He.fAd K ("_law_pick", none))) := He.glo_ok X G (cd.fact 1 (f := .glo "_law_pick") rfl)
  obtain ⟨fd__law_wheels, D__law_wheels⟩ := cd.def_ 2 (d := dd__law_wheels) rfl
  have E__law_wheels : Fun K "_law_wheels" "_law_wheels" s_law_wheels (He.fAd K ("_law_wheels", none)) fd__law_wheels := fun_of (st := s_law_wheels) D__law_wheels
  have m__law_wheels : mg "_law_wheels" = some (.ref (He.fAd K ("_law_wheels", none))) := He.glo_ok X G (cd.fact 2 (f := .glo "_law_wheels") rfl)
  obtain ⟨fd__law_steps, D__law_steps⟩ := cd.def_ 3 (d := dd__law_steps) rfl
  have E__law_steps : Fun K "_law_steps" "_law_steps" s_law_steps (He.fAd K ("_law_steps", none)) fd__law_steps := fun_of (st := s_law_steps) D__law_steps
  have m__law_steps : mg "_law_steps" = some (.ref (He.fAd K ("_law_steps", none))) := He.glo_ok X G (cd.fact 3 (f := .glo "_law_steps") rfl)
  obtain ⟨fd__law_times, D__law_times⟩ := cd.def_ 4 (d := dd__law_times) rfl
  have E__law_times : Fun K "_law_times" "_law_times" s_law_times (He.fAd K ("_law_times", none)) fd__law_times := fun_of (st := s_law_times) D__law_times
  have m__law_times : mg "_law_times" = some (.ref (He.fAd K ("_law_times", none))) := He.glo_ok X G (cd.fact 4 (f := .glo "_law_times") rfl)
  obtain ⟨fd__law_row, D__law_row⟩ := cd.def_ 5 (d := dd__law_row) rfl
  have E__law_row : Fun K "_law_row" "_law_row" s_law_row (He.fAd K ("_law_row", none)) fd__law_row := fun_of (st := s_law_row) D__law_row
  have m__law_row : mg "_law_row" = some (.ref (He.fAd K ("_law_row", none))) := He.glo_ok X G (cd.fact 5 (f := .glo "_law_row") rfl)
  obtain ⟨fd_size_of, D_size_of⟩ := cd.def_ 6 (d := dd_size_of) rfl
  have E_size_of : Fun K "size_of" "size_of" ssize_of (He.fAd K ("size_of", none)) fd_size_of := fun_of (st := ssize_of) D_size_of
  have m_size_of : mg "size_of" = some (.ref (He.fAd K ("size_of", none))) := He.glo_ok X G (cd.fact 6 (f := .glo "size_of") rfl)
  obtain ⟨fd_is_number, D_is_number⟩ := cd.def_ 7 (d := dd_is_number) rfl
  have E_is_number : Fun K "is_number" "is_number" sis_number (He.fAd K ("is_number", none)) fd_is_number := fun_of (st := sis_number) D_is_number
  have m_is_number : mg "is_number" = some (.ref (He.fAd K ("is_number", none))) := He.glo_ok X G (cd.fact 7 (f := .glo "is_number") rfl)
  obtain ⟨fd_need_wheels, D_need_wheels⟩ := cd.def_ 8 (d := dd_need_wheels) rfl
  have E_need_wheels : Fun K "need_wheels" "need_wheels" sneed_wheels (He.fAd K ("need_wheels", none)) fd_need_wheels := fun_of (st := sneed_wheels) D_need_wheels
  have m_need_wheels : mg "need_wheels" = some (.ref (He.fAd K ("need_wheels", none))) := He.glo_ok X G (cd.fact 8 (f := .glo "need_wheels") rfl)
  obtain ⟨fd_is_step, D_is_step⟩ := cd.def_ 9 (d := dd_is_step) rfl
  have E_is_step : Fun K "is_step" "is_step" sis_step (He.fAd K ("is_step", none)) fd_is_step := fun_of (st := sis_step) D_is_step
  have m_is_step : mg "is_step" = some (.ref (He.fAd K ("is_step", none))) := He.glo_ok X G (cd.fact 9 (f := .glo "is_step") rfl)
  obtain ⟨fd_need_row, D_need_row⟩ := cd.def_ 10 (d := dd_need_row) rfl
  have E_need_row : Fun K "need_row" "need_row" sneed_row (He.fAd K ("need_row", none)) fd_need_row := fun_of (st := sneed_row) D_need_row
  have m_need_row : mg "need_row" = some (.ref (He.fAd K ("need_row", none))) := He.glo_ok X G (cd.fact 10 (f := .glo "need_row") rfl)
  obtain ⟨fd_all_steps, D_all_steps⟩ := cd.def_ 11 (d := dd_all_steps) rfl
  have E_all_steps : Fun K "all_steps" "all_steps" sall_steps (He.fAd K ("all_steps", none)) fd_all_steps := fun_of (st := sall_steps) D_all_steps
  have m_all_steps : mg "all_steps" = some (.ref (He.fAd K ("all_steps", none))) := He.glo_ok X G (cd.fact 11 (f := .glo "all_steps") rfl)
  obtain ⟨fd_home, D_home⟩ := cd.def_ 12 (d := dd_home) rfl
  have E_home : Fun K "home" "home" shome (He.fAd K ("home", none)) fd_home := fun_of (st := shome) D_home
  have m_home : mg "home" = some (.ref (He.fAd K ("home", none))) := He.glo_ok X G (cd.fact 12 (f := .glo "home") rfl)
  obtain ⟨fd_added, D_added⟩ := cd.def_ 13 (d := dd_added) rfl
  have E_added : Fun K "added" "added" sadded (He.fAd K ("added", none)) fd_added := fun_of (st := sadded) D_added
  have m_added : mg "added" = some (.ref (He.fAd K ("added", none))) := He.glo_ok X G (cd.fact 13 (f := .glo "added") rfl)
  obtain ⟨fd_numbers_by, D_numbers_by⟩ := cd.def_ 14 (d := dd_numbers_by) rfl
  have E_numbers_by : Fun K "numbers_by" "numbers_by" snumbers_by (He.fAd K ("numbers_by", none)) fd_numbers_by := fun_of (st := snumbers_by) D_numbers_by
  have m_numbers_by : mg "numbers_by" = some (.ref (He.fAd K ("numbers_by", none))) := He.glo_ok X G (cd.fact 14 (f := .glo "numbers_by") rfl)
  obtain ⟨fd_order_of, D_order_of⟩ := cd.def_ 15 (d := dd_order_of) rfl
  have E_order_of : Fun K "order_of" "order_of" sorder_of (He.fAd K ("order_of", none)) fd_order_of := fun_of (st := sorder_of) D_order_of
  have m_order_of : mg "order_of" = some (.ref (He.fAd K ("order_of", none))) := He.glo_ok X G (cd.fact 15 (f := .glo "order_of") rfl)
  obtain ⟨fd_tellers_of, D_tellers_of⟩ := cd.def_ 16 (d := dd_tellers_of) rfl
  have E_tellers_of : Fun K "tellers_of" "tellers_of" stellers_of (He.fAd K ("tellers_of", none)) fd_tellers_of := fun_of (st := stellers_of) D_tellers_of
  have m_tellers_of : mg "tellers_of" = some (.ref (He.fAd K ("tellers_of", none))) := He.glo_ok X G (cd.fact 16 (f := .glo "tellers_of") rfl)
  obtain ⟨fd_teller, D_teller⟩ := cd.def_ 17 (d := dd_teller) rfl
  have E_teller : Fun K "teller" "teller" steller (He.fAd K ("teller", none)) fd_teller := fun_of (st := steller) D_teller
  have m_teller : mg "teller" = some (.ref (He.fAd K ("teller", none))) := He.glo_ok X G (cd.fact 17 (f := .glo "teller") rfl)
  obtain ⟨fd__law_added, D__law_added⟩ := cd.def_ 18 (d := dd__law_added) rfl
  have E__law_added : Fun K "_law_added" "_law_added" s_law_added (He.fAd K ("_law_added", none)) fd__law_added := fun_of (st := s_law_added) D__law_added
  have m__law_added : mg "_law_added" = some (.ref (He.fAd K ("_law_added", none))) := He.glo_ok X G (cd.fact 18 (f := .glo "_law_added") rfl)
  obtain ⟨fd__law_sums, D__law_sums⟩ := cd.def_ 19 (d := dd__law_sums) rfl
  have E__law_sums : Fun K "_law_sums" "_law_sums" s_law_sums (He.fAd K ("_law_sums", none)) fd__law_sums := fun_of (st := s_law_sums) D__law_sums
  have m__law_sums : mg "_law_sums" = some (.ref (He.fAd K ("_law_sums", none))) := He.glo_ok X G (cd.fact 19 (f := .glo "_law_sums") rfl)
  obtain ⟨fd__law_home, D__law_home⟩ := cd.def_ 20 (d := dd__law_home) rfl
  have E__law_home : Fun K "_law_home" "_law_home" s_law_home (He.fAd K ("_law_home", none)) fd__law_home := fun_of (st := s_law_home) D__law_home
  have m__law_home : mg "_law_home" = some (.ref (He.fAd K ("_law_home", none))) := He.glo_ok X G (cd.fact 20 (f := .glo "_law_home") rfl)
  obtain ⟨fd__law_alike, D__law_alike⟩ := cd.def_ 21 (d := dd__law_alike) rfl
  have E__law_alike : Fun K "_law_alike" "_law_alike" s_law_alike (He.fAd K ("_law_alike", none)) fd__law_alike := fun_of (st := s_law_alike) D__law_alike
  have m__law_alike : mg "_law_alike" = some (.ref (He.fAd K ("_law_alike", none))) := He.glo_ok X G (cd.fact 21 (f := .glo "_law_alike") rfl)
  obtain ⟨fd_few_of, D_few_of⟩ := cd.def_ 22 (d := dd_few_of) rfl
  have E_few_of : Fun K "few_of" "few_of" sfew_of (He.fAd K ("few_of", none)) fd_few_of := fun_of (st := sfew_of) D_few_of
  have m_few_of : mg "few_of" = some (.ref (He.fAd K ("few_of", none))) := He.glo_ok X G (cd.fact 22 (f := .glo "few_of") rfl)
  obtain ⟨fd_few_teller, D_few_teller⟩ := cd.def_ 23 (d := dd_few_teller) rfl
  have E_few_teller : Fun K "few_teller" "few_teller" sfew_teller (He.fAd K ("few_teller", none)) fd_few_teller := fun_of (st := sfew_teller) D_few_teller
  have m_few_teller : mg "few_teller" = some (.ref (He.fAd K ("few_teller", none))) := He.glo_ok X G (cd.fact 23 (f := .glo "few_teller") rfl)
  obtain ⟨fd__law_order, D__law_order⟩ := cd.def_ 24 (d := dd__law_order) rfl
  have E__law_order : Fun K "_law_order" "_law_order" s_law_order (He.fAd K ("_law_order", none)) fd__law_order := fun_of (st := s_law_order) D__law_order
  have m__law_order : mg "_law_order" = some (.ref (He.fAd K ("_law_order", none))) := He.glo_ok X G (cd.fact 24 (f := .glo "_law_order") rfl)
  obtain ⟨fd__law_tellers, D__law_tellers⟩ := cd.def_ 25 (d := dd__law_tellers) rfl
  have E__law_tellers : Fun K "_law_tellers" "_law_tellers" s_law_tellers (He.fAd K ("_law_tellers", none)) fd__law_tellers := fun_of (st := s_law_tellers) D__law_tellers
  have m__law_tellers : mg "_law_tellers" = some (.ref (He.fAd K ("_law_tellers", none))) := He.glo_ok X G (cd.fact 25 (f := .glo "_law_tellers") rfl)
  obtain ⟨fd_has_few, D_has_few⟩ := cd.def_ 26 (d := dd_has_few) rfl
  have E_has_few : Fun K "has_few" "has_few" shas_few (He.fAd K ("has_few", none)) fd_has_few := fun_of (st := shas_few) D_has_few
  have m_has_few : mg "has_few" = some (.ref (He.fAd K ("has_few", none))) := He.glo_ok X G (cd.fact 26 (f := .glo "has_few") rfl)
  obtain ⟨fd_times, D_times⟩ := cd.def_ 27 (d := dd_times) rfl
  have E_times : Fun K "times" "times" stimes (He.fAd K ("times", none)) fd_times := fun_of (st := stimes) D_times
  have m_times : mg "times" = some (.ref (He.fAd K ("times", none))) := He.glo_ok X G (cd.fact 27 (f := .glo "times") rfl)
  obtain ⟨fd_does_tell, D_does_tell⟩ := cd.def_ 28 (d := dd_does_tell) rfl
  have E_does_tell : Fun K "does_tell" "does_tell" sdoes_tell (He.fAd K ("does_tell", none)) fd_does_tell := fun_of (st := sdoes_tell) D_does_tell
  have m_does_tell : mg "does_tell" = some (.ref (He.fAd K ("does_tell", none))) := He.glo_ok X G (cd.fact 28 (f := .glo "does_tell") rfl)
  obtain ⟨fd_shows_teller, D_shows_teller⟩ := cd.def_ 29 (d := dd_shows_teller) rfl
  have E_shows_teller : Fun K "shows_teller" "shows_teller" sshows_teller (He.fAd K ("shows_teller", none)) fd_shows_teller := fun_of (st := sshows_teller) D_shows_teller
  have m_shows_teller : mg "shows_teller" = some (.ref (He.fAd K ("shows_teller", none))) := He.glo_ok X G (cd.fact 29 (f := .glo "shows_teller") rfl)
  obtain ⟨fd_sums_of, D_sums_of⟩ := cd.def_ 30 (d := dd_sums_of) rfl
  have E_sums_of : Fun K "sums_of" "sums_of" ssums_of (He.fAd K ("sums_of", none)) fd_sums_of := fun_of (st := ssums_of) D_sums_of
  have m_sums_of : mg "sums_of" = some (.ref (He.fAd K ("sums_of", none))) := He.glo_ok X G (cd.fact 30 (f := .glo "sums_of") rfl)
  obtain ⟨fd_sums, D_sums⟩ := cd.def_ 31 (d := dd_sums) rfl
  have E_sums : Fun K "sums" "sums" ssums (He.fAd K ("sums", none)) fd_sums := fun_of (st := ssums) D_sums
  have m_sums : mg "sums" = some (.ref (He.fAd K ("sums", none))) := He.glo_ok X G (cd.fact 31 (f := .glo "sums") rfl)
  obtain ⟨fd_stays_out, D_stays_out⟩ := cd.def_ 32 (d := dd_stays_out) rfl
  have E_stays_out : Fun K "stays_out" "stays_out" sstays_out (He.fAd K ("stays_out", none)) fd_stays_out := fun_of (st := sstays_out) D_stays_out
  have m_stays_out : mg "stays_out" = some (.ref (He.fAd K ("stays_out", none))) := He.glo_ok X G (cd.fact 32 (f := .glo "stays_out") rfl)
  obtain ⟨fd_never_home, D_never_home⟩ := cd.def_ 33 (d := dd_never_home) rfl
  have E_never_home : Fun K "never_home" "never_home" snever_home (He.fAd K ("never_home", none)) fd_never_home := fun_of (st := snever_home) D_never_home
  have m_never_home : mg "never_home" = some (.ref (He.fAd K ("never_home", none))) := He.glo_ok X G (cd.fact 33 (f := .glo "never_home") rfl)
  obtain ⟨fd_law, D_law⟩ := cd.def_ 34 (d := dd_law) rfl
  have E_law : Fun K "law" "law" slaw (He.fAd K ("law", none)) fd_law := fun_of (st := slaw) D_law
  have m_law : mg "law" = some (.ref (He.fAd K ("law", none))) := He.glo_ok X G (cd.fact 34 (f := .glo "law") rfl)
  have e := hfa.symm.trans m_law
  cases e
  have T : Txt mg := ⟨He.free_ok X G (cd.fact 35 (f := .free "all") rfl), He.free_ok X G (cd.fact 36 (f := .free "bool") rfl), He.free_ok X G (cd.fact 37 (f := .free "dict") rfl), He.free_ok X G (cd.fact 38 (f := .free "enumerate") rfl), He.free_ok X G (cd.fact 39 (f := .free "int") rfl), He.free_ok X G (cd.fact 40 (f := .free "isinstance") rfl), He.free_ok X G (cd.fact 41 (f := .free "len") rfl), He.free_ok X G (cd.fact 42 (f := .free "list") rfl), He.free_ok X G (cd.fact 43 (f := .free "range") rfl), He.free_ok X G (cd.fact 44 (f := .free "set") rfl), He.free_ok X G (cd.fact 45 (f := .free "sorted") rfl), He.free_ok X G (cd.fact 46 (f := .free "str") rfl), He.free_ok X G (cd.fact 47 (f := .free "sum") rfl), He.free_ok X G (cd.fact 48 (f := .free "tuple") rfl), He.free_ok X G (cd.fact 49 (f := .free "zip") rfl), He.int_ok X G (cd.fact 50 (f := .int "MOST_PLACES" 400) rfl), He.int_ok X G (cd.fact 51 (f := .int "MOST_ROW" 40) rfl), He.int_ok X G (cd.fact 52 (f := .int "MOST_WHEELS" 3) rfl)⟩
  refine ⟨fd_law, tf.map (He.cT K), spF (PySem.Challenge.rw_nolothome_k02_whole_few_sums).prog w K mg ((tf.map (He.cT K)).map (·.2)) 1 false F_law, fun p hp => ?_, fun p hp => ?_, fun p hp => ?_, fun s u => FunD.bindsA (ps := ["_law_script"]) D_law (fun _ _ _ _ _ _ us hl => match us, hl with | [_], _ => rfl) s [u] rfl, fun H a ns hl hb ht hS => ?_, fun base KB GB TB => ?_⟩
  · obtain ⟨q, hq, rfl⟩ := List.mem_map.mp hp
    exact c.empty q hq
  · obtain ⟨q, hq, rfl⟩ := List.mem_map.mp hp
    exact c.out q hq
  · obtain ⟨q, hq, rfl⟩ := List.mem_map.mp hp
    exact PySem.W.codeHd_of_K X (c.hd q hq)
  · refine law_sp (fun p hp => ?_) hS ?_ (E2.law_1 ns) (E2.law_2 ns)
    · obtain ⟨q, hq, rfl⟩ := List.mem_map.mp hp
      exact ⟨#[], ht q hq, (show TriplesOk [] by unfold TriplesOk; exact True.intro)⟩
    · exact fun o ho hc => noLst c.more ho hc
  · have NF : ∀ X : Cx, X.K = K → X.mg = mg → NumF X (He.fAd K ("is_number", none)) := fun X e1 e2 => by
      subst e1 e2
      exact ⟨⟨sis_number, fd_is_number, _, _, _, _, _, _, _, _, _, _, _, _, _, _, _, E_is_number, ⟨rfl, rfl, rfl, by decide +kernel, rfl, rfl, rfl, rfl, rfl, rfl⟩, rfl, E_is_number.binds (fun _ _ _ _ _ _ us hl => match us, hl with | [_, _, _], _ => rfl)⟩, ⟨T.b_isinstance, T.b_int, T.b_bool⟩, m_is_number, E_is_number.kp⟩
    have ET : TimE K mg := el_times ⟨⟨stimes, fd_times, _, _, _, _, _, _, _, _, _, _, _, _, _, _, _, _, _, E_times, ⟨rfl, rfl, rfl, rfl⟩, rfl, E_times.binds (fun _ _ _ _ _ _ us hl => match us, hl with | [_, _, _], _ => rfl)⟩, T.b_tuple, T.b_zip, m_times, E_times.kp⟩
    have O__law_taken := ok__law_taken (P := (PySem.Challenge.rw_nolothome_k02_whole_few_sums).prog) (w := w) (base := base) (tb := ((tf.map (He.cT K)).map (·.2))) E__law_taken T 
    have C__law_taken : Cal (PySem.Challenge.rw_nolothome_k02_whole_few_sums).prog w K mg base ((tf.map (He.cT K)).map (·.2)) 1 "_law_taken" 2 false F__law_taken := cal_of E__law_taken O__law_taken m__law_taken (fun _ _ _ _ _ _ us hl => match us, hl with | [_, _], _ => rfl)
    have O__law_pick := ok__law_pick (P := (PySem.Challenge.rw_nolothome_k02_whole_few_sums).prog) (w := w) (base := base) (tb := ((tf.map (He.cT K)).map (·.2))) E__law_pick T C__law_taken
    have C__law_pick : Cal (PySem.Challenge.rw_nolothome_k02_whole_few_sums).prog w K mg base ((tf.map (He.cT K)).map (·.2)) 2 "_law_pick" 2 false F__law_pick := cal_of E__law_pick O__law_pick m__law_pick (fun _ _ _ _ _ _ us hl => match us, hl with | [_, _], _ => rfl)
    have O__law_wheels := ok__law_wheels (P := (PySem.Challenge.rw_nolothome_k02_whole_few_sums).prog) (w := w) (base := base) (tb := ((tf.map (He.cT K)).map (·.2))) E__law_wheels T C__law_pick
    have C__law_wheels : Cal (PySem.Challenge.rw_nolothome_k02_whole_few_sums).prog w K mg base ((tf.map (He.cT K)).map (·.2)) 3 "_law_wheels" 1 false F__law_wheels := cal_of E__law_wheels O__law_wheels m__law_wheels (fun _ _ _ _ _ _ us hl => match us, hl with | [_], _ => rfl)
    have O__law_steps := ok__law_steps (P := (PySem.Challenge.rw_nolothome_k02_whole_few_sums).prog) (w := w) (base := base) (tb := ((tf.map (He.cT K)).map (·.2))) E__law_steps T 
    have C__law_steps : Cal (PySem.Challenge.rw_nolothome_k02_whole_few_sums).prog w K mg base ((tf.map (He.cT K)).map (·.2)) 1 "_law_steps" 1 true F__law_steps := cal_of E__law_steps O__law_steps m__law_steps (fun _ _ _ _ _ _ us hl => match us, hl with | [_], _ => rfl)
    have O__law_times := ok__law_times (P := (PySem.Challenge.rw_nolothome_k02_whole_few_sums).prog) (w := w) (base := base) (tb := ((tf.map (He.cT K)).map (·.2))) E__law_times T 
    have C__law_times : Cal (PySem.Challenge.rw_nolothome_k02_whole_few_sums).prog w K mg base ((tf.map (He.cT K)).map (·.2)) 1 "_law_times" 3 true F__law_times := cal_of E__law_times O__law_times m__law_times (fun _ _ _ _ _ _ us hl => match us, hl with | [_, _, _], _ => rfl)
    have O__law_row := ok__law_row (P := (PySem.Challenge.rw_nolothome_k02_whole_few_sums).prog) (w := w) (base := base) (tb := ((tf.map (He.cT K)).map (·.2))) E__law_row T C__law_steps C__law_taken C__law_pick C__law_times
    have C__law_row : Cal (PySem.Challenge.rw_nolothome_k02_whole_few_sums).prog w K mg base ((tf.map (He.cT K)).map (·.2)) 3 "_law_row" 3 false F__law_row := cal_of E__law_row O__law_row m__law_row (fun _ _ _ _ _ _ us hl => match us, hl with | [_, _, _], _ => rfl)
    have O_size_of := ok_size_of (P := (PySem.Challenge.rw_nolothome_k02_whole_few_sums).prog) (w := w) (base := base) (tb := ((tf.map (He.cT K)).map (·.2))) E_size_of T 
    have C_size_of : Cal (PySem.Challenge.rw_nolothome_k02_whole_few_sums).prog w K mg base ((tf.map (He.cT K)).map (·.2)) 1 "size_of" 1 true F_size_of := cal_of E_size_of O_size_of m_size_of (fun _ _ _ _ _ _ us hl => match us, hl with | [_], _ => rfl)
    have O_is_number := ok_is_number (P := (PySem.Challenge.rw_nolothome_k02_whole_few_sums).prog) (w := w) (base := base) (tb := ((tf.map (He.cT K)).map (·.2))) E_is_number T 
    have C_is_number : Cal (PySem.Challenge.rw_nolothome_k02_whole_few_sums).prog w K mg base ((tf.map (He.cT K)).map (·.2)) 1 "is_number" 3 true F_is_number := cal_of E_is_number O_is_number m_is_number (fun _ _ _ _ _ _ us hl => match us, hl with | [_, _, _], _ => rfl)
    have O_need_wheels := ok_need_wheels (P := (PySem.Challenge.rw_nolothome_k02_whole_few_sums).prog) (w := w) (base := base) (tb := ((tf.map (He.cT K)).map (·.2))) E_need_wheels T C_size_of C_is_number
    have C_need_wheels : Cal (PySem.Challenge.rw_nolothome_k02_whole_few_sums).prog w K mg base ((tf.map (He.cT K)).map (·.2)) 2 "need_wheels" 1 true F_need_wheels := cal_of E_need_wheels O_need_wheels m_need_wheels (fun _ _ _ _ _ _ us hl => match us, hl with | [_], _ => rfl)
    have TB_is_step := TB (He.cT K ("is_step", none)) (List.mem_map.mpr ⟨_, List.mem_of_getElem? (i := 0) rfl, rfl⟩)
    have O_is_step := ok_is_step (P := (PySem.Challenge.rw_nolothome_k02_whole_few_sums).prog) (w := w) (base := base) (tb := ((tf.map (He.cT K)).map (·.2))) (funC_of (st := sis_step) D_is_step) T (tabG_of TB_is_step) (List.mem_map.mpr ⟨_, List.mem_map.mpr ⟨_, List.mem_of_getElem? (i := 0) rfl, rfl⟩, rfl⟩) NF 
    have C_is_step : Cal (PySem.Challenge.rw_nolothome_k02_whole_few_sums).prog w K mg base ((tf.map (He.cT K)).map (·.2)) 2 "is_step" 2 true F_is_step := cal_of E_is_step O_is_step m_is_step (fun _ _ _ _ _ _ us hl => match us, hl with | [_, _], _ => rfl)
    have O_need_row := ok_need_row (P := (PySem.Challenge.rw_nolothome_k02_whole_few_sums).prog) (w := w) (base := base) (tb := ((tf.map (He.cT K)).map (·.2))) E_need_row T C_is_step
    have C_need_row : Cal (PySem.Challenge.rw_nolothome_k02_whole_few_sums).prog w K mg base ((tf.map (He.cT K)).map (·.2)) 3 "need_row" 2 true F_need_row := cal_of E_need_row O_need_row m_need_row (fun _ _ _ _ _ _ us hl => match us, hl with | [_, _], _ => rfl)
    have O_all_steps := ok_all_steps (P := (PySem.Challenge.rw_nolothome_k02_whole_few_sums).prog) (w := w) (base := base) (tb := ((tf.map (He.cT K)).map (·.2))) E_all_steps T 
    have C_all_steps : Cal (PySem.Challenge.rw_nolothome_k02_whole_few_sums).prog w K mg base ((tf.map (He.cT K)).map (·.2)) 1 "all_steps" 1 true F_all_steps := cal_of E_all_steps O_all_steps m_all_steps (fun _ _ _ _ _ _ us hl => match us, hl with | [_], _ => rfl)
    have O_home := ok_home (P := (PySem.Challenge.rw_nolothome_k02_whole_few_sums).prog) (w := w) (base := base) (tb := ((tf.map (He.cT K)).map (·.2))) E_home T 
    have C_home : Cal (PySem.Challenge.rw_nolothome_k02_whole_few_sums).prog w K mg base ((tf.map (He.cT K)).map (·.2)) 1 "home" 1 true F_home := cal_of E_home O_home m_home (fun _ _ _ _ _ _ us hl => match us, hl with | [_], _ => rfl)
    have O_added := ok_added (P := (PySem.Challenge.rw_nolothome_k02_whole_few_sums).prog) (w := w) (base := base) (tb := ((tf.map (He.cT K)).map (·.2))) E_added T 
    have C_added : Cal (PySem.Challenge.rw_nolothome_k02_whole_few_sums).prog w K mg base ((tf.map (He.cT K)).map (·.2)) 1 "added" 3 true F_added := cal_of E_added O_added m_added (fun _ _ _ _ _ _ us hl => match us, hl with | [_, _, _], _ => rfl)
    have O_numbers_by := ok_numbers_by (P := (PySem.Challenge.rw_nolothome_k02_whole_few_sums).prog) (w := w) (base := base) (tb := ((tf.map (He.cT K)).map (·.2))) E_numbers_by T C_home C_added
    have C_numbers_by : Cal (PySem.Challenge.rw_nolothome_k02_whole_few_sums).prog w K mg base ((tf.map (He.cT K)).map (·.2)) 2 "numbers_by" 3 true F_numbers_by := cal_of E_numbers_by O_numbers_by m_numbers_by (fun _ _ _ _ _ _ us hl => match us, hl with | [_, _, _], _ => rfl)
    have O_order_of := ok_order_of (P := (PySem.Challenge.rw_nolothome_k02_whole_few_sums).prog) (w := w) (base := base) (tb := ((tf.map (He.cT K)).map (·.2))) E_order_of T C_home C_added
    have C_order_of : Cal (PySem.Challenge.rw_nolothome_k02_whole_few_sums).prog w K mg base ((tf.map (He.cT K)).map (·.2)) 2 "order_of" 2 true F_order_of := cal_of E_order_of O_order_of m_order_of (fun _ _ _ _ _ _ us hl => match us, hl with | [_, _], _ => rfl)
    have O_tellers_of := ok_tellers_of (P := (PySem.Challenge.rw_nolothome_k02_whole_few_sums).prog) (w := w) (base := base) (tb := ((tf.map (He.cT K)).map (·.2))) E_tellers_of T C_all_steps C_numbers_by C_order_of
    have C_tellers_of : Cal (PySem.Challenge.rw_nolothome_k02_whole_few_sums).prog w K mg base ((tf.map (He.cT K)).map (·.2)) 3 "tellers_of" 2 true F_tellers_of := cal_of E_tellers_of O_tellers_of m_tellers_of (fun _ _ _ _ _ _ us hl => match us, hl with | [_, _], _ => rfl)
    have O_teller := ok_teller (P := (PySem.Challenge.rw_nolothome_k02_whole_few_sums).prog) (w := w) (base := base) (tb := ((tf.map (He.cT K)).map (·.2))) E_teller T C_need_wheels C_need_row C_tellers_of
    have C_teller : Cal (PySem.Challenge.rw_nolothome_k02_whole_few_sums).prog w K mg base ((tf.map (He.cT K)).map (·.2)) 4 "teller" 2 true F_teller := cal_of E_teller O_teller m_teller (fun _ _ _ _ _ _ us hl => match us, hl with | [_, _], _ => rfl)
    have O__law_added := ok__law_added (P := (PySem.Challenge.rw_nolothome_k02_whole_few_sums).prog) (w := w) (base := base) (tb := ((tf.map (He.cT K)).map (·.2))) E__law_added T 
    have C__law_added : Cal (PySem.Challenge.rw_nolothome_k02_whole_few_sums).prog w K mg base ((tf.map (He.cT K)).map (·.2)) 1 "_law_added" 3 true F__law_added := cal_of E__law_added O__law_added m__law_added (fun _ _ _ _ _ _ us hl => match us, hl with | [_, _, _], _ => rfl)
    have O__law_sums := ok__law_sums (P := (PySem.Challenge.rw_nolothome_k02_whole_few_sums).prog) (w := w) (base := base) (tb := ((tf.map (He.cT K)).map (·.2))) E__law_sums T C__law_added
    have C__law_sums : Cal (PySem.Challenge.rw_nolothome_k02_whole_few_sums).prog w K mg base ((tf.map (He.cT K)).map (·.2)) 2 "_law_sums" 2 true F__law_sums := cal_of E__law_sums O__law_sums m__law_sums (fun _ _ _ _ _ _ us hl => match us, hl with | [_, _], _ => rfl)
    have O__law_home := ok__law_home (P := (PySem.Challenge.rw_nolothome_k02_whole_few_sums).prog) (w := w) (base := base) (tb := ((tf.map (He.cT K)).map (·.2))) E__law_home T 
    have C__law_home : Cal (PySem.Challenge.rw_nolothome_k02_whole_few_sums).prog w K mg base ((tf.map (He.cT K)).map (·.2)) 1 "_law_home" 1 true F__law_home := cal_of E__law_home O__law_home m__law_home (fun _ _ _ _ _ _ us hl => match us, hl with | [_], _ => rfl)
    have O__law_alike := ok__law_alike (P := (PySem.Challenge.rw_nolothome_k02_whole_few_sums).prog) (w := w) (base := base) (tb := ((tf.map (He.cT K)).map (·.2))) E__law_alike T m__law_alike (E__law_alike.binds (fun _ _ _ _ _ _ us hl => match us, hl with | [_, _], _ => rfl))  60
    have C__law_alike : Cal (PySem.Challenge.rw_nolothome_k02_whole_few_sums).prog w K mg base ((tf.map (He.cT K)).map (·.2)) 61 "_law_alike" 2 true F__law_alike := cal_of E__law_alike O__law_alike m__law_alike (fun _ _ _ _ _ _ us hl => match us, hl with | [_, _], _ => rfl)
    have O_few_of := ok_few_of (P := (PySem.Challenge.rw_nolothome_k02_whole_few_sums).prog) (w := w) (base := base) (tb := ((tf.map (He.cT K)).map (·.2))) E_few_of T C_tellers_of
    have C_few_of : Cal (PySem.Challenge.rw_nolothome_k02_whole_few_sums).prog w K mg base ((tf.map (He.cT K)).map (·.2)) 4 "few_of" 2 true F_few_of := cal_of E_few_of O_few_of m_few_of (fun _ _ _ _ _ _ us hl => match us, hl with | [_, _], _ => rfl)
    have O_few_teller := ok_few_teller (P := (PySem.Challenge.rw_nolothome_k02_whole_few_sums).prog) (w := w) (base := base) (tb := ((tf.map (He.cT K)).map (·.2))) E_few_teller T C_need_wheels C_need_row C_few_of
    have C_few_teller : Cal (PySem.Challenge.rw_nolothome_k02_whole_few_sums).prog w K mg base ((tf.map (He.cT K)).map (·.2)) 5 "few_teller" 2 true F_few_teller := cal_of E_few_teller O_few_teller m_few_teller (fun _ _ _ _ _ _ us hl => match us, hl with | [_, _], _ => rfl)
    have O__law_order := ok__law_order (P := (PySem.Challenge.rw_nolothome_k02_whole_few_sums).prog) (w := w) (base := base) (tb := ((tf.map (He.cT K)).map (·.2))) E__law_order T C__law_home C__law_added
    have C__law_order : Cal (PySem.Challenge.rw_nolothome_k02_whole_few_sums).prog w K mg base ((tf.map (He.cT K)).map (·.2)) 2 "_law_order" 2 true F__law_order := cal_of E__law_order O__law_order m__law_order (fun _ _ _ _ _ _ us hl => match us, hl with | [_, _], _ => rfl)
    have O__law_tellers := ok__law_tellers (P := (PySem.Challenge.rw_nolothome_k02_whole_few_sums).prog) (w := w) (base := base) (tb := ((tf.map (He.cT K)).map (·.2))) E__law_tellers T C__law_steps C__law_order C__law_times
    have C__law_tellers : Cal (PySem.Challenge.rw_nolothome_k02_whole_few_sums).prog w K mg base ((tf.map (He.cT K)).map (·.2)) 3 "_law_tellers" 2 true F__law_tellers := cal_of E__law_tellers O__law_tellers m__law_tellers (fun _ _ _ _ _ _ us hl => match us, hl with | [_, _], _ => rfl)
    have O_has_few := ok_has_few (P := (PySem.Challenge.rw_nolothome_k02_whole_few_sums).prog) (w := w) (base := base) (tb := ((tf.map (He.cT K)).map (·.2))) E_has_few T C_need_wheels C_need_row C_few_of
    have C_has_few : Cal (PySem.Challenge.rw_nolothome_k02_whole_few_sums).prog w K mg base ((tf.map (He.cT K)).map (·.2)) 5 "has_few" 2 true F_has_few := cal_of E_has_few O_has_few m_has_few (fun _ _ _ _ _ _ us hl => match us, hl with | [_, _], _ => rfl)
    have O_times := ok_times (P := (PySem.Challenge.rw_nolothome_k02_whole_few_sums).prog) (w := w) (base := base) (tb := ((tf.map (He.cT K)).map (·.2))) E_times T 
    have C_times : Cal (PySem.Challenge.rw_nolothome_k02_whole_few_sums).prog w K mg base ((tf.map (He.cT K)).map (·.2)) 1 "times" 3 true F_times := cal_of E_times O_times m_times (fun _ _ _ _ _ _ us hl => match us, hl with | [_, _, _], _ => rfl)
    have TB_does_tell := TB (He.cT K ("does_tell", none)) (List.mem_map.mpr ⟨_, List.mem_of_getElem? (i := 1) rfl, rfl⟩)
    have O_does_tell := ok_does_tell (P := (PySem.Challenge.rw_nolothome_k02_whole_few_sums).prog) (w := w) (base := base) (tb := ((tf.map (He.cT K)).map (·.2))) (funC_of (st := sdoes_tell) D_does_tell) T (tabG_of TB_does_tell) (List.mem_map.mpr ⟨_, List.mem_map.mpr ⟨_, List.mem_of_getElem? (i := 1) rfl, rfl⟩, rfl⟩) NF ET C_order_of C_is_step
    have C_does_tell : Cal (PySem.Challenge.rw_nolothome_k02_whole_few_sums).prog w K mg base ((tf.map (He.cT K)).map (·.2)) 3 "does_tell" 3 true F_does_tell := cal_of E_does_tell O_does_tell m_does_tell (fun _ _ _ _ _ _ us hl => match us, hl with | [_, _, _], _ => rfl)
    have O_shows_teller := ok_shows_teller (P := (PySem.Challenge.rw_nolothome_k02_whole_few_sums).prog) (w := w) (base := base) (tb := ((tf.map (He.cT K)).map (·.2))) E_shows_teller T C_need_wheels C_need_row C_does_tell C_tellers_of
    have C_shows_teller : Cal (PySem.Challenge.rw_nolothome_k02_whole_few_sums).prog w K mg base ((tf.map (He.cT K)).map (·.2)) 4 "shows_teller" 3 true F_shows_teller := cal_of E_shows_teller O_shows_teller m_shows_teller (fun _ _ _ _ _ _ us hl => match us, hl with | [_, _, _], _ => rfl)
    have O_sums_of := ok_sums_of (P := (PySem.Challenge.rw_nolothome_k02_whole_few_sums).prog) (w := w) (base := base) (tb := ((tf.map (He.cT K)).map (·.2))) E_sums_of T C_added
    have C_sums_of : Cal (PySem.Challenge.rw_nolothome_k02_whole_few_sums).prog w K mg base ((tf.map (He.cT K)).map (·.2)) 2 "sums_of" 2 true F_sums_of := cal_of E_sums_of O_sums_of m_sums_of (fun _ _ _ _ _ _ us hl => match us, hl with | [_, _], _ => rfl)
    have O_sums := ok_sums (P := (PySem.Challenge.rw_nolothome_k02_whole_few_sums).prog) (w := w) (base := base) (tb := ((tf.map (He.cT K)).map (·.2))) E_sums T C_need_wheels C_need_row C_sums_of
    have C_sums : Cal (PySem.Challenge.rw_nolothome_k02_whole_few_sums).prog w K mg base ((tf.map (He.cT K)).map (·.2)) 4 "sums" 2 true F_sums := cal_of E_sums O_sums m_sums (fun _ _ _ _ _ _ us hl => match us, hl with | [_, _], _ => rfl)
    have O_stays_out := ok_stays_out (P := (PySem.Challenge.rw_nolothome_k02_whole_few_sums).prog) (w := w) (base := base) (tb := ((tf.map (He.cT K)).map (·.2))) E_stays_out T C_home C_sums_of
    have C_stays_out : Cal (PySem.Challenge.rw_nolothome_k02_whole_few_sums).prog w K mg base ((tf.map (He.cT K)).map (·.2)) 3 "stays_out" 2 true F_stays_out := cal_of E_stays_out O_stays_out m_stays_out (fun _ _ _ _ _ _ us hl => match us, hl with | [_, _], _ => rfl)
    have O_never_home := ok_never_home (P := (PySem.Challenge.rw_nolothome_k02_whole_few_sums).prog) (w := w) (base := base) (tb := ((tf.map (He.cT K)).map (·.2))) E_never_home T C_need_wheels C_need_row C_stays_out
    have C_never_home : Cal (PySem.Challenge.rw_nolothome_k02_whole_few_sums).prog w K mg base ((tf.map (He.cT K)).map (·.2)) 4 "never_home" 2 true F_never_home := cal_of E_never_home O_never_home m_never_home (fun _ _ _ _ _ _ us hl => match us, hl with | [_, _], _ => rfl)
    have O_law := ok_law (P := (PySem.Challenge.rw_nolothome_k02_whole_few_sums).prog) (w := w) (base := base) (tb := ((tf.map (He.cT K)).map (·.2))) E_law T C__law_wheels C__law_row C_teller C__law_sums C__law_home C__law_alike C_few_teller C__law_tellers C_has_few C_shows_teller C_sums C__law_times C_never_home
    exact O_law
end H2
open PySem PySem.W PySem.Calls PyProof.Rows
theorem PySem.Challenge.cw_nolothome_k02_whole_few_sums_holds : PySem.Challenge.rw_nolothome_k02_whole_few_sums.Holds := by
  w_on; o_law
  refine HandSHeadRun.head_any (r := OpenLaw.row PySem.Challenge.rw_nolothome_k02_whole_few_sums) (q := view (OpenLaw.row PySem.Challenge.rw_nolothome_k02_whole_few_sums).prog [45]) (H := H2.hk) (ob := H2.ob) (M := 40000) (loose := H2.names) (d := HandSHeadRun.topDef (OpenLaw.row PySem.Challenge.rw_nolothome_k02_whole_few_sums).prog 45) (kwd := []) H2.ob_eq
    (by kernel_rfl) (fun s => by kernel_rfl) H2.run (by kernel_rfl) (by kernel_rfl) (by kernel_rfl) (by rfl) (by first | assumption | decide +kernel) (by decide +kernel) ⟨rfl, rfl, rfl, rfl, rfl, by decide +kernel⟩ ?hw ?hc
  case hw => w_witness2
  case hc =>
    refine LamX.walk_ofTsE (l := PySem.Challenge.rw_nolothome_k02_whole_few_sums) (n := 63) (k := 62) (x := "_law_script") (CX := fun w => L2.CX (PySem.Challenge.rw_nolothome_k02_whole_few_sums).prog w) rfl (by decide) (by kernel_rfl) ⟨rfl, by decide, by decide⟩ ?F (fun _ _ _ _ _ ⟨_, _, _, _, _, _, _, _, _, _, _, _, z⟩ => z)
    intro w mg fa h Y G hmg0
    obtain ⟨K, KX, c⟩ := Y
    have hmg : mg ("law" : PySem.Str) = some (.ref fa) := by
      have e : (HandSHeadRun.topDef (OpenLaw.row PySem.Challenge.rw_nolothome_k02_whole_few_sums).prog 45).name = ("law" : PySem.Str) := by kernel_rfl
      rw [← e]
      exact hmg0
    exact ⟨K, KX, H2.facts KX G hmg c⟩
end
