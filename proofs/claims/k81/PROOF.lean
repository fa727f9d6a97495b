import PyProof.Rows.All
import Wide.All
import OpenK.AllK
import Wide.FinOn
import HandS.ForMost
import HandS.Exc
import HandS.HeadHook1
import HandS.Lambda
import KE.KNest
import HandS.IsInst
import HandS.Deep
import HandS.TupAny
import HandS.FStr
import HandS.Walk
import HandS.Words
import HandS.Star
import HandS.ClsMeth
import HandS.Property
import HandS.MakeKw
import HandS.MakeKwOnly
import HandS.WordsExc
import HandS.HeadHook2
import HandS.Style
import HandS.Comp
import HandS.Iter
import HandS.Text
import KE.GoesMore
import KE.GoesEnum
import HandS.MapJoin
import HandS.Small
import HandS.RaiseMore
import HandS.OwnEq
import PyProof.EqAt
import PyProof.EqKinds
import HandS.New
import HandS.MethStar
import HandS.IterVal
import HandS.Head0
import HandS.Head1
import HandS.Head2
import HandS.HeadEnd
import HandS.Ends
import HandS.EndBits
import HandS.EndTab
import HandS.ExcInit
import HandS.ExcOwn
import HandS.ExcField
import HandS.ExcIs
import KE.KExcSuper
import HandS.ExcValue
import KE.KStateDown
import HandS.More
import PySem.Challenge.RW_laterepair_k81_whole_benches_led_back
set_option Elab.async false
set_option linter.all false
set_option maxRecDepth 100000
/-! RL1: abstract values D, the abstract store (List Ce), what they stand for, results R, and how a reading follows from a semantic function. -/
namespace RL
open PySem PySem.Spec PyProof.Rows L2
abbrev Slots := L2.St
/-- an abstract value: cell n is the n-th mutable object of the store; tup, lst, ins are objects that are never written any more -/
inductive D where
  | non | bl (b : Bool) | int (i : Int) | str (s : Str)
  | tup (l : List D) | lst (l : List D) | ins (c : Str) (ks : List Str) (l : List D)
  | cell (n : Nat)
  | cls (c : Str)
  | fz (l : List D)
  /-- a caught exception; dicts that are never written any more: keys ints and texts, keys tuples of these -/
  | exc (c : Str) (ks : List Str) (l : List D)
  | dct (ks : List Key) (l : List D)
  | dcT (ks : List (List Key)) (l : List D)
/-- what a mutable object holds -/
inductive Ce where
  | lst (l : List D) | ins (c : Str) (ks : List Str) (l : List D) | dead | dct (ks : List Key) (l : List D) | dcT (ks : List (List Key)) (l : List D)
mutual
/-- are they alike, sign by sign -/
def sameD : D → D → Bool
  | .non, .non => true
  | .bl a, .bl b => a == b
  | .int a, .int b => a == b
  | .str a, .str b => decide (a = b)
  | .tup a, .tup b => sameDs a b
  | .lst a, .lst b => sameDs a b
  | .ins c k a, .ins d m b => decide (c = d) && decide (k = m) && sameDs a b
  | .cell a, .cell b => a == b
  | .cls a, .cls b => decide (a = b)
  | .fz a, .fz b => sameDs a b
  | .exc c k a, .exc d m b => decide (c = d) && decide (k = m) && sameDs a b
  | .dct k a, .dct m b => decide (k = m) && sameDs a b
  | .dcT k a, .dcT m b => decide (k = m) && sameDs a b
  | _, _ => false
def sameDs : List D → List D → Bool
  | [], [] => true
  | a :: l, b :: m => sameD a b && sameDs l m
  | _, _ => false
end
mutual
theorem sameD_refl : ∀ a : D, sameD a a = true
  | .non => rfl
  | .bl a => by simp [sameD]
  | .int a => by simp [sameD]
  | .str a => by simp [sameD]
  | .tup a => by simp [sameD, sameDs_refl a]
  | .lst a => by simp [sameD, sameDs_refl a]
  | .ins c k a => by simp [sameD, sameDs_refl a]
  | .cell a => by simp [sameD]
  | .cls a => by simp [sameD]
  | .fz a => by simp [sameD, sameDs_refl a]
  | .exc c k a => by simp [sameD, sameDs_refl a]
  | .dct k a => by simp [sameD, sameDs_refl a]
  | .dcT k a => by simp [sameD, sameDs_refl a]
theorem sameDs_refl : ∀ l : List D, sameDs l l = true
  | [] => rfl
  | a :: l => by simp [sameDs, sameD_refl a, sameDs_refl l]
end
mutual
theorem sameD_eq : ∀ a b : D, sameD a b = true → a = b
  | .non, b, h => by cases b <;> simp_all [sameD]
  | .bl a, b, h => by cases b <;> simp_all [sameD]
  | .int a, b, h => by cases b <;> simp_all [sameD]
  | .str a, b, h => by cases b <;> simp_all [sameD]
  | .tup a, b, h => by
    cases b <;> simp [sameD] at h
    rw [sameDs_eq _ _ h]
  | .lst a, b, h => by
    cases b <;> simp [sameD] at h
    rw [sameDs_eq _ _ h]
  | .ins c k a, b, h => by
    cases b <;> simp [sameD] at h
    rw [sameDs_eq _ _ h.2, h.1.1, h.1.2]
  | .cell a, b, h => by cases b <;> simp_all [sameD]
  | .cls a, b, h => by cases b <;> simp_all [sameD]
  | .fz a, b, h => by
    cases b <;> simp [sameD] at h
    rw [sameDs_eq _ _ h]
  | .exc c k a, b, h => by
    cases b <;> simp [sameD] at h
    rw [sameDs_eq _ _ h.2, h.1.1, h.1.2]
  | .dct k a, b, h => by
    cases b <;> simp [sameD] at h
    rw [sameDs_eq _ _ h.2, h.1]
  | .dcT k a, b, h => by
    cases b <;> simp [sameD] at h
    rw [sameDs_eq _ _ h.2, h.1]
theorem sameDs_eq : ∀ l m : List D, sameDs l m = true → l = m
  | [], m, h => by cases m <;> simp_all [sameDs]
  | a :: l, m, h => by
    cases m <;> simp [sameDs] at h
    rw [sameD_eq _ _ h.1, sameDs_eq _ _ h.2]
end
instance : DecidableEq D := fun a b => if h : sameD a b = true then .isTrue (sameD_eq a b h) else .isFalse fun e => h (by rw [e]; exact sameD_refl b)
def sameC : Ce → Ce → Bool
  | .lst a, .lst b => sameDs a b
  | .ins c k a, .ins d m b => decide (c = d) && decide (k = m) && sameDs a b
  | .dead, .dead => true
  | .dct k a, .dct m b => decide (k = m) && sameDs a b
  | .dcT k a, .dcT m b => decide (k = m) && sameDs a b
  | _, _ => false
theorem sameC_refl : ∀ a : Ce, sameC a a = true
  | .lst a => sameDs_refl a
  | .ins c k a => by simp [sameC, sameDs_refl a]
  | .dead => rfl
  | .dct k a => by simp [sameC, sameDs_refl a]
  | .dcT k a => by simp [sameC, sameDs_refl a]
theorem sameC_eq : ∀ a b : Ce, sameC a b = true → a = b
  | .lst a, b, h => by
    cases b <;> simp [sameC] at h
    rw [sameDs_eq _ _ h]
  | .ins c k a, b, h => by
    cases b <;> simp [sameC] at h
    rw [sameDs_eq _ _ h.2, h.1.1, h.1.2]
  | .dead, b, h => by cases b <;> simp_all [sameC]
  | .dct k a, b, h => by
    cases b <;> simp [sameC] at h
    rw [sameDs_eq _ _ h.2, h.1]
  | .dcT k a, b, h => by
    cases b <;> simp [sameC] at h
    rw [sameDs_eq _ _ h.2, h.1]
instance : DecidableEq Ce := fun a b => if h : sameC a b = true then .isTrue (sameC_eq a b h) else .isFalse fun e => h (by rw [e]; exact sameC_refl b)
/-- an exception: its class, the fields of its own dict -/
structure Ex where
  c : Str
  ks : List Str
  l : List D
/-- a result with the store behind it; bad: not told -/
inductive R (α : Type) where
  | ok (a : α) (ws : List Ce) | ex (e : Ex) (ws : List Ce) | bad
def R.bind {α β : Type} (r : R α) (f : α → List Ce → R β) : R β := match r with
  | .ok a ws => f a ws
  | .ex e ws => .ex e ws
  | .bad => .bad
@[simp] theorem R.bind_ok {α β : Type} (a : α) (ws : List Ce) (f : α → List Ce → R β) : (R.ok a ws).bind f = f a ws := rfl
@[simp] theorem R.bind_ex {α β : Type} (e : Ex) (ws : List Ce) (f : α → List Ce → R β) : (R.ex e ws : R α).bind f = .ex e ws := rfl
@[simp] theorem R.bind_bad {α β : Type} (f : α → List Ce → R β) : (R.bad : R α).bind f = .bad := rfl
def R.ofO {α : Type} (o : Option α) (ws : List Ce) : R α := match o with
  | some a => .ok a ws
  | none => .bad
@[simp] theorem R.ofO_some {α : Type} (a : α) (ws : List Ce) : R.ofO (some a) ws = .ok a ws := rfl
@[simp] theorem R.ofO_none {α : Type} (ws : List Ce) : R.ofO (none : Option α) ws = .bad := rfl
/-- an exception object of a class, its dict at dd -/
def ExH (cls : Value) (dd : Option Addr) (a : Addr) : HO := .ext fun h => ∃ (oe : Obj) (vs : Array Value), h.get? a = some oe ∧ Zc cls dd oe ∧ oe.data = .fields vs
/-- an exception's fields, no dict if there are none -/
def XdAt (G : Hp) (dd : Option Addr) (ks : List Str) (vs : List V) : Prop := (dd = none ∧ ks = []) ∨ ∃ b, dd = some b ∧ G b = some (.xd (ks.zip vs))
theorem XdAt.up {G G' : Hp} {dd : Option Addr} {ks : List Str} {vs : List V} (h : XdAt G dd ks vs) (hG : Same G G') : XdAt G' dd ks vs := by
  rcases h with h | ⟨b, e, h⟩
  · exact .inl h
  · exact .inr ⟨b, e, hG _ _ h⟩
/-! ### what an abstract value stands for: as the addresses of the store's objects, G the heap of what is never written -/
section
variable (K : PySem.W.Frag) (as : List Addr) (G : Hp)
mutual
def Rep : D → V → Prop
  | .non, v => v = .non
  | .bl b, v => v = .bl b
  | .int i, v => v = .int i
  | .str s, v => v = .str s
  | .tup l, v => ∃ a vs, v = .ref a ∧ G a = some (.tup vs) ∧ Reps l vs
  | .lst l, v => ∃ a vs, v = .ref a ∧ G a = some (.lst vs) ∧ Reps l vs
  | .ins c ks l, v => ∃ a dx vs, v = .ref a ∧ G a = some (.ins (He.ga K c) dx (ks.zip vs)) ∧ ks.length = l.length ∧ Reps l vs
  | .cell n, v => ∃ a, as[n]? = some a ∧ v = .ref a
  | .cls c, v => v = .ref (He.ga K c)
  | .fz l, v => ∃ a vs, v = .ref a ∧ SqL K G a vs ∧ Reps l vs
  | .exc c ks l, v => ∃ a dd vs, v = .ref a ∧ G a = some (ExH (.ref (He.ga K c)) dd a) ∧ XdAt G dd ks vs ∧ ks.length = l.length ∧ Reps l vs
  | .dct ks l, v => ∃ a vs, v = .ref a ∧ G a = some (.dK (ks.zip vs)) ∧ ks.length = l.length ∧ Reps l vs
  | .dcT ks l, v => ∃ a vs, v = .ref a ∧ G a = some (.dT (ks.zip vs)) ∧ ks.length = l.length ∧ Reps l vs
def Reps : List D → List V → Prop
  | [], vs => vs = []
  | d :: ds, vs => ∃ v r, vs = v :: r ∧ Rep d v ∧ Reps ds r
end
def RepC : Ce → HO → Prop
  | .lst l, o => ∃ vs, o = .lst vs ∧ Reps K as G l vs
  | .ins c ks l, o => ∃ dx vs, o = .ins (He.ga K c) dx (ks.zip vs) ∧ ks.length = l.length ∧ Reps K as G l vs
  | .dead, _ => True
  | .dct ks l, o => ∃ vs, o = .dK (ks.zip vs) ∧ ks.length = l.length ∧ Reps K as G l vs
  | .dcT ks l, o => ∃ vs, o = .dT (ks.zip vs) ∧ ks.length = l.length ∧ Reps K as G l vs
end
theorem Reps.len {K : PySem.W.Frag} {as : List Addr} {G : Hp} : ∀ {ds : List D} {vs : List V}, Reps K as G ds vs → ds.length = vs.length
  | [], vs, h => by simp [Reps] at h; simp [h]
  | d :: ds, vs, h => by
    simp only [Reps] at h
    obtain ⟨v, r, e, _, h2⟩ := h
    rw [e, List.length_cons, List.length_cons, Reps.len h2]
theorem Reps.get {K : PySem.W.Frag} {as : List Addr} {G : Hp} : ∀ {ds : List D} {vs : List V} {i : Nat} {d : D}, Reps K as G ds vs → ds[i]? = some d → ∃ v, vs[i]? = some v ∧ Rep K as G d v
  | [], vs, i, d, h, e => by simp at e
  | d' :: ds, vs, 0, d, h, e => by
    simp only [Reps] at h
    obtain ⟨v, r, ev, h1, h2⟩ := h
    simp at e
    exact ⟨v, by simp [ev], by rw [← e]; exact h1⟩
  | d' :: ds, vs, i + 1, d, h, e => by
    simp only [Reps] at h
    obtain ⟨v, r, ev, h1, h2⟩ := h
    simp at e
    obtain ⟨v', e', h'⟩ := Reps.get h2 e
    exact ⟨v', by rw [ev]; simpa using e', h'⟩
theorem Reps.app {K : PySem.W.Frag} {as : List Addr} {G : Hp} : ∀ {ds es : List D} {vs us : List V}, Reps K as G ds vs → Reps K as G es us → Reps K as G (ds ++ es) (vs ++ us)
  | [], es, vs, us, h, h' => by
    simp only [Reps] at h
    rw [h]
    exact h'
  | d :: ds, es, vs, us, h, h' => by
    simp only [Reps] at h
    obtain ⟨v, r, e, h1, h2⟩ := h
    rw [e]
    show Reps K as G (d :: (ds ++ es)) (v :: (r ++ us))
    simp only [Reps]
    exact ⟨v, _, rfl, h1, Reps.app h2 h'⟩
theorem Reps.nil {K : PySem.W.Frag} {as : List Addr} {G : Hp} : Reps K as G [] [] := by simp [Reps]
theorem Reps.cons {K : PySem.W.Frag} {as : List Addr} {G : Hp} {d : D} {ds : List D} {v : V} {vs : List V} (h : Rep K as G d v) (h' : Reps K as G ds vs) : Reps K as G (d :: ds) (v :: vs) := by
  simp only [Reps]
  exact ⟨v, vs, rfl, h, h'⟩
theorem Reps.one {K : PySem.W.Frag} {as : List Addr} {G : Hp} {d : D} {v : V} (h : Rep K as G d v) : Reps K as G [d] [v] := Reps.cons h Reps.nil
theorem Reps.uncons {K : PySem.W.Frag} {as : List Addr} {G : Hp} {d : D} {ds : List D} {vs : List V} (h : Reps K as G (d :: ds) vs) : ∃ v r, vs = v :: r ∧ Rep K as G d v ∧ Reps K as G ds r := by
  simp only [Reps] at h
  exact h
theorem Reps.unnil {K : PySem.W.Frag} {as : List Addr} {G : Hp} {vs : List V} (h : Reps K as G [] vs) : vs = [] := by simpa [Reps] using h
/-- more is known -/
theorem prefix_get {α : Type} {as bs : List α} (h : as <+: bs) {n : Nat} {a : α} (e : as[n]? = some a) : bs[n]? = some a := by
  obtain ⟨r, rfl⟩ := h
  rw [List.getElem?_append_left (by
    have := (List.getElem?_eq_some_iff.mp e).1
    exact this)]
  exact e
section
variable {K : PySem.W.Frag} {as bs : List Addr} {G G' : Hp}
theorem sqL_up {a : Addr} {vs : List V} (hG : Same G G') (h : SqL K G a vs) : SqL K G' a vs := by
  rcases h with (h | ⟨o, h⟩) | h
  · exact .inl (.inl (hG _ _ h))
  · exact .inl (.inr ⟨o, hG _ _ h⟩)
  · exact .inr h
mutual
theorem Rep.up (hp : as <+: bs) (hG : Same G G') : ∀ {d : D} {v : V}, Rep K as G d v → Rep K bs G' d v
  | .non, v, h => by simpa [Rep] using h
  | .bl b, v, h => by simpa [Rep] using h
  | .int i, v, h => by simpa [Rep] using h
  | .str s, v, h => by simpa [Rep] using h
  | .tup l, v, h => by
    simp only [Rep] at h ⊢
    obtain ⟨a, vs, e, g, h⟩ := h
    exact ⟨a, vs, e, hG _ _ g, Reps.up hp hG h⟩
  | .lst l, v, h => by
    simp only [Rep] at h ⊢
    obtain ⟨a, vs, e, g, h⟩ := h
    exact ⟨a, vs, e, hG _ _ g, Reps.up hp hG h⟩
  | .ins c ks l, v, h => by
    simp only [Rep] at h ⊢
    obtain ⟨a, dx, vs, e, g, hl, h⟩ := h
    exact ⟨a, dx, vs, e, hG _ _ g, hl, Reps.up hp hG h⟩
  | .cell n, v, h => by
    simp only [Rep] at h ⊢
    obtain ⟨a, e, g⟩ := h
    exact ⟨a, prefix_get hp e, g⟩
  | .cls c, v, h => by simpa [Rep] using h
  | .fz l, v, h => by
    simp only [Rep] at h ⊢
    obtain ⟨a, vs, e, g, h⟩ := h
    exact ⟨a, vs, e, sqL_up hG g, Reps.up hp hG h⟩
  | .exc c ks l, v, h => by
    simp only [Rep] at h ⊢
    obtain ⟨a, dd, vs, e, g, x, hl, h⟩ := h
    exact ⟨a, dd, vs, e, hG _ _ g, x.up hG, hl, Reps.up hp hG h⟩
  | .dct ks l, v, h => by
    simp only [Rep] at h ⊢
    obtain ⟨a, vs, e, g, hl, h⟩ := h
    exact ⟨a, vs, e, hG _ _ g, hl, Reps.up hp hG h⟩
  | .dcT ks l, v, h => by
    simp only [Rep] at h ⊢
    obtain ⟨a, vs, e, g, hl, h⟩ := h
    exact ⟨a, vs, e, hG _ _ g, hl, Reps.up hp hG h⟩
theorem Reps.up (hp : as <+: bs) (hG : Same G G') : ∀ {ds : List D} {vs : List V}, Reps K as G ds vs → Reps K bs G' ds vs
  | [], vs, h => by simpa [Reps] using h
  | d :: ds, vs, h => by
    simp only [Reps] at h ⊢
    obtain ⟨v, r, e, h1, h2⟩ := h
    exact ⟨v, r, e, Rep.up hp hG h1, Reps.up hp hG h2⟩
end
theorem RepC.up (hp : as <+: bs) (hG : Same G G') : ∀ {c : Ce} {o : HO}, RepC K as G c o → RepC K bs G' c o
  | .lst l, o, h => by
    obtain ⟨vs, e, h⟩ := h
    exact ⟨vs, e, Reps.up hp hG h⟩
  | .ins c ks l, o, h => by
    obtain ⟨dx, vs, e, hl, h⟩ := h
    exact ⟨dx, vs, e, hl, Reps.up hp hG h⟩
  | .dead, o, _ => trivial
  | .dct ks l, o, h => by
    obtain ⟨vs, e, hl, h⟩ := h
    exact ⟨vs, e, hl, Reps.up hp hG h⟩
  | .dcT ks l, o, h => by
    obtain ⟨vs, e, hl, h⟩ := h
    exact ⟨vs, e, hl, Reps.up hp hG h⟩
end
/-! ### the tables of code objects: of the defs of these names that make lambdas -/
def lamNames : List Str := ["_law_back_right", "_law_bench_right", "_law_blocked", "_law_due", "_law_line_right", "_law_one_right", "_law_packets_right", "_law_phases_right", "_law_play_right", "_law_read", "_law_refused_right", "_law_rest_right", "_law_right", "_law_tried_right", "_law_turn_right", "_law_values_right", "_law_work", "law"]
def tabsK (K : PySem.W.Frag) : List (Addr × Str) := lamNames.filterMap fun x => (PySem.W.tabIn K x).map fun c => (c.2, x ++ ".<locals>." ++ "<lambda>")
/-- tracked, and no table -/
def Hn (H : Hp) (b : Addr) : Prop := ∃ o, H b = some o ∧ ∀ ps, o ≠ .tbl ps
theorem Hn.ne {H : Hp} {b : Addr} (h : Hn H b) : H b ≠ none := by
  obtain ⟨o, e, _⟩ := h
  rw [e]
  simp
theorem Hn.of {H : Hp} {b : Addr} {o : HO} (e : H b = some o) (h : ∀ ps, o ≠ .tbl ps := by intro _ z; cases z) : Hn H b := ⟨o, e, h⟩
theorem not_hn {H : Hp} {b : Addr} (e : H b = none) : ¬ Hn H b := fun h => h.ne e
theorem Hn.upd {H : Hp} {p b : Addr} {o : HO} (h : Hn H b) (ho : ∀ ps, o ≠ .tbl ps) : Hn (upd H p o) b := by
  by_cases q : b = p
  · subst q
    exact ⟨o, upd_same, ho⟩
  · obtain ⟨u, e, k⟩ := h
    exact ⟨u, by rw [upd_ne q]; exact e, k⟩
theorem ext_tbl {φ : Heap → Prop} : ∀ ps, HO.ext φ ≠ .tbl ps := fun ps z => by cases z
/-! ### the state: G below H, the store's objects apart -/
structure Wd (K : PySem.W.Frag) (G H : Hp) (as : List Addr) (ws : List Ce) : Prop where
  le : Same G H
  len : as.length = ws.length
  nd : as.Nodup
  out : ∀ a ∈ as, G a = none ∧ Hn H a
  at_ : ∀ (i : Nat) (c : Ce) (a : Addr), ws[i]? = some c → as[i]? = some a → c = .dead ∨ ∃ o, H a = some o ∧ RepC K as G c o
  tb : LamX.Tabs (tabsK K) H
  ng : ∀ b ps, G b ≠ some (.tbl ps)
/-- from one state to a later one -/
structure Rch (G H : Hp) (as : List Addr) (G' H' : Hp) (as' : List Addr) : Prop where
  up : Same G G'
  pre : as <+: as'
  fr : ∀ b o, b ∉ as → H b = some o → (∀ ps, o ≠ .tbl ps) → H' b = some o
  nw : ∀ b, Hn H b → G b = none → G' b = none
  fs : ∀ a, a ∈ as' → a ∈ as ∨ ¬ Hn H a
  th : ∀ b, Hn H b → Hn H' b
theorem Rch.refl {G H : Hp} {as : List Addr} : Rch G H as G H as := ⟨Same.refl _, List.prefix_refl _, fun _ _ _ h _ => h, fun _ _ h => h, fun _ h => .inl h, fun _ h => h⟩
theorem Rch.trans {G H G1 H1 G2 H2 : Hp} {as as1 as2 : List Addr} (a : Rch G H as G1 H1 as1) (b : Rch G1 H1 as1 G2 H2 as2) : Rch G H as G2 H2 as2 where
  up := a.up.trans b.up
  pre := a.pre.trans b.pre
  fr := fun x o hx e k => b.fr x o (fun h => by
    rcases a.fs x h with h | h
    · exact hx h
    · exact h ⟨o, e, k⟩) (a.fr x o hx e k) k
  nw := fun x hx e => b.nw x (a.th x hx) (a.nw x hx e)
  fs := fun x h => by
    rcases b.fs x h with h | h
    · exact a.fs x h
    · exact .inr fun z => h (a.th x z)
  th := fun x h => b.th x (a.th x h)
/-- at p lies no table and no code object -/
def NoTab (H : Hp) (p : Addr) : Prop := ∀ u, H p = some u → (∀ ps, u ≠ .tbl ps) ∧ ∀ q, u ≠ LamX.CodeO p q
theorem NoTab.none {H : Hp} {p : Addr} (h : H p = none) : NoTab H p := fun u e => by
  rw [h] at e
  cases e
theorem NoTab.of {H : Hp} {p : Addr} {o : HO} (h : H p = some o) (h1 : ∀ ps, o ≠ .tbl ps := by intro _ z; cases z) (h2 : ∀ q, o ≠ LamX.CodeO p q := by intro _ z; cases z) : NoTab H p := fun u e => by
  rw [h] at e
  cases e
  exact ⟨h1, h2⟩
theorem tabs_upd {T : List (Addr × Str)} {H : Hp} {p : Addr} {o : HO} (t : LamX.Tabs T H) (h : NoTab H p) : LamX.Tabs T (upd H p o) := fun x hx => by
  obtain ⟨ps, e, k, hc⟩ := t x hx
  refine ⟨ps, ?_, k, fun pos cv hv => ?_⟩
  · rw [upd_ne (fun z => by
      rw [z] at e
      exact (h _ e).1 ps rfl)]
    exact e
  · obtain ⟨c, e1, e2⟩ := hc pos cv hv
    refine ⟨c, e1, ?_⟩
    rw [upd_ne (fun z => by
      subst z
      exact (h _ e2).2 _ rfl)]
    exact e2
theorem tabs_new {T : List (Addr × Str)} {H : Hp} {p : Addr} {o : HO} (t : LamX.Tabs T H) (h : H p = none) : LamX.Tabs T (upd H p o) := tabs_upd t (.none h)
/-- a new object that is never written -/
theorem Rch.new {G H : Hp} {as : List Addr} {p : Addr} {o : HO} (hg : Same G H) (h : H p = none) (ho : ∀ ps, o ≠ .tbl ps := by intro _ z; cases z) : Rch G H as (upd G p o) (upd H p o) as where
  up := fun b u e => by
    rw [upd_ne (fun q => by
      rw [q] at e
      rw [hg _ _ e] at h
      cases h)]
    exact e
  pre := List.prefix_refl _
  fr := fun b u _ e _ => by rw [upd_ne (ne_of_none e h)]; exact e
  nw := fun b hb e => by
    rw [upd_ne (fun q => hb.ne (by rw [q]; exact h))]
    exact e
  fs := fun _ h => .inl h
  th := fun b hb => hb.upd ho
theorem Wd.new {K : PySem.W.Frag} {G H : Hp} {as : List Addr} {ws : List Ce} {p : Addr} {o : HO} (W : Wd K G H as ws) (h : H p = none) (ho : ∀ ps, o ≠ .tbl ps := by intro _ z; cases z) : Wd K (upd G p o) (upd H p o) as ws where
  le := fun b u e => by
    by_cases hb : b = p
    · rw [hb, upd_same] at e
      rw [hb, upd_same]
      exact e
    · rw [upd_ne hb] at e
      rw [upd_ne hb]
      exact W.le _ _ e
  len := W.len
  nd := W.nd
  out := fun a ha => by
    have q := W.out a ha
    have ne : a ≠ p := fun z => q.2.ne (by rw [z]; exact h)
    refine ⟨?_, q.2.upd ho⟩
    rw [upd_ne ne]
    exact q.1
  at_ := fun i c a e e' => by
    rcases W.at_ i c a e e' with q | ⟨o', q, r⟩
    · exact .inl q
    · refine .inr ⟨o', ?_, r.up (List.prefix_refl _) (Rch.new (as := as) W.le h ho).up⟩
      rw [upd_ne (ne_of_none q h)]
      exact q
  tb := tabs_new W.tb h
  ng := fun b ps z => by
    by_cases hb : b = p
    · rw [hb, upd_same] at z
      exact ho ps (Option.some.inj z)
    · rw [upd_ne hb] at z
      exact W.ng _ _ z
/-- a new object that H tracks but no one speaks of -/
theorem Rch.newH {G H : Hp} {as : List Addr} {p : Addr} {o : HO} (h : H p = none) (ho : ∀ ps, o ≠ .tbl ps := by intro _ z; cases z) : Rch G H as G (upd H p o) as where
  up := Same.refl _
  pre := List.prefix_refl _
  fr := fun b u _ e _ => by rw [upd_ne (ne_of_none e h)]; exact e
  nw := fun b hb e => e
  fs := fun _ h => .inl h
  th := fun b hb => hb.upd ho
theorem Wd.newH {K : PySem.W.Frag} {G H : Hp} {as : List Addr} {ws : List Ce} {p : Addr} {o : HO} (W : Wd K G H as ws) (h : H p = none) (ho : ∀ ps, o ≠ .tbl ps := by intro _ z; cases z) : Wd K G (upd H p o) as ws where
  le := fun b u e => by
    have q := W.le _ _ e
    rw [upd_ne (ne_of_none q h)]
    exact q
  len := W.len
  nd := W.nd
  out := fun a ha => ⟨(W.out a ha).1, (W.out a ha).2.upd ho⟩
  at_ := fun i c a e e' => by
    rcases W.at_ i c a e e' with q | ⟨o', q, r⟩
    · exact .inl q
    · refine .inr ⟨o', ?_, r⟩
      rw [upd_ne (ne_of_none q h)]
      exact q
  tb := tabs_new W.tb h
  ng := W.ng
/-- a new mutable object -/
theorem prefix_snoc {α : Type} (as : List α) (p : α) : as <+: as ++ [p] := ⟨[p], rfl⟩
theorem Rch.cell {G H : Hp} {as : List Addr} {p : Addr} {o : HO} (h : H p = none) (ho : ∀ ps, o ≠ .tbl ps := by intro _ z; cases z) : Rch G H as G (upd H p o) (as ++ [p]) where
  up := Same.refl _
  pre := prefix_snoc _ _
  fr := fun b u _ e _ => by rw [upd_ne (ne_of_none e h)]; exact e
  nw := fun b hb e => e
  fs := fun a ha => by
    rcases List.mem_append.mp ha with q | q
    · exact .inl q
    · rw [List.mem_singleton.mp q]
      exact .inr (not_hn h)
  th := fun b hb => hb.upd ho
theorem Wd.cell {K : PySem.W.Frag} {G H : Hp} {as : List Addr} {ws : List Ce} {p : Addr} {o : HO} {c : Ce} (W : Wd K G H as ws) (h : H p = none) (r : RepC K (as ++ [p]) G c o) (ho : ∀ ps, o ≠ .tbl ps := by intro _ z; cases z) : Wd K G (upd H p o) (as ++ [p]) (ws ++ [c]) where
  le := (W.newH h ho).le
  len := by rw [List.length_append, List.length_append, W.len] <;> rfl
  nd := by
    refine List.nodup_append.mpr ⟨W.nd, by simp, fun a ha b hb => ?_⟩
    rw [List.mem_singleton.mp hb]
    exact fun z => (W.out a ha).2.ne (by rw [z]; exact h)
  out := fun a ha => by
    rcases List.mem_append.mp ha with q | q
    · exact (W.newH h ho).out a q
    · rw [List.mem_singleton.mp q]
      refine ⟨?_, o, upd_same, ho⟩
      cases e : G p with
      | none => rfl
      | some u =>
        rw [W.le _ _ e] at h
        cases h
  at_ := fun i c' a e e' => by
    by_cases hi : i < ws.length
    · rw [List.getElem?_append_left hi] at e
      rw [List.getElem?_append_left (by rw [W.len]; exact hi)] at e'
      rcases (W.newH (o := o) h ho).at_ i c' a e e' with q | ⟨o', q, r'⟩
      · exact .inl q
      · exact .inr ⟨o', q, r'.up (prefix_snoc _ _) (Same.refl _)⟩
    · have hi' : i = ws.length := by
        have := (List.getElem?_eq_some_iff.mp e).1
        rw [List.length_append, List.length_singleton] at this
        omega
      subst hi'
      rw [List.getElem?_append_right (Nat.le_refl _)] at e
      rw [List.getElem?_append_right (by rw [W.len] <;> exact Nat.le_refl _)] at e'
      simp [W.len] at e e'
      subst e e'
      exact .inr ⟨o, upd_same, r⟩
  tb := tabs_new W.tb h
  ng := W.ng
/-- a mutable object is written -/
theorem Rch.put {G H : Hp} {as : List Addr} {p : Addr} {o : HO} (hp : p ∈ as) (ho : ∀ ps, o ≠ .tbl ps := by intro _ z; cases z) : Rch G H as G (upd H p o) as where
  up := Same.refl _
  pre := List.prefix_refl _
  fr := fun b u hb e _ => by rw [upd_ne (fun q => hb (by rw [q]; exact hp))]; exact e
  nw := fun b hb e => e
  fs := fun _ h => .inl h
  th := fun b hb => hb.upd ho
/-- what a store's object is that is no dead one: no table, no code object -/
theorem RepC.plain {K : PySem.W.Frag} {as : List Addr} {G : Hp} {c : Ce} {o : HO} (h : RepC K as G c o) (hd : c ≠ .dead) : (∀ ps, o ≠ .tbl ps) ∧ ∀ c q, o ≠ LamX.CodeO c q := by
  cases c with
  | lst l =>
    obtain ⟨vs, e, _⟩ := h
    subst e
    exact ⟨fun ps z => (by cases z), fun c q z => (by cases z)⟩
  | ins c ks l =>
    obtain ⟨dx, vs, e, _⟩ := h
    subst e
    exact ⟨fun ps z => (by cases z), fun c q z => (by cases z)⟩
  | dead => exact absurd rfl hd
  | dct ks l =>
    obtain ⟨vs, e, _⟩ := h
    subst e
    exact ⟨fun ps z => (by cases z), fun c q z => (by cases z)⟩
  | dcT ks l =>
    obtain ⟨vs, e, _⟩ := h
    subst e
    exact ⟨fun ps z => (by cases z), fun c q z => (by cases z)⟩
theorem Wd.put {K : PySem.W.Frag} {G H : Hp} {as : List Addr} {ws : List Ce} {p : Addr} {o : HO} {c c0 : Ce} {n : Nat} (W : Wd K G H as ws) (hn : as[n]? = some p) (h0 : ws[n]? = some c0) (hd : c0 ≠ .dead) (r : RepC K as G c o) (ho : ∀ ps, o ≠ .tbl ps := by intro _ z; cases z) : Wd K G (upd H p o) as (ws.set n c) where
  le := fun b u e => by
    have q := W.le _ _ e
    have hp := W.out p (List.mem_of_getElem? hn)
    rw [upd_ne (fun z => by rw [z, hp.1] at e; cases e)]
    exact q
  len := by rw [List.length_set]; exact W.len
  nd := W.nd
  out := fun a ha => ⟨(W.out a ha).1, (W.out a ha).2.upd ho⟩
  at_ := fun i c' a e e' => by
    by_cases hi : i = n
    · subst hi
      rw [hn] at e'
      cases e'
      have hl : i < ws.length := by rw [← W.len]; exact (List.getElem?_eq_some_iff.mp hn).1
      rw [List.getElem?_set_self hl] at e
      cases e
      exact .inr ⟨o, upd_same, r⟩
    · rw [List.getElem?_set_ne (fun z => hi z.symm)] at e
      rcases W.at_ i c' a e e' with q | ⟨o', q, r'⟩
      · exact .inl q
      · refine .inr ⟨o', ?_, r'⟩
        have ne : a ≠ p := fun z => by
          subst z
          have h1 := (List.getElem?_eq_some_iff.mp e')
          have h2 := (List.getElem?_eq_some_iff.mp hn)
          exact hi ((List.getElem_inj W.nd).mp (h1.2.trans h2.2.symm))
        rw [upd_ne ne]
        exact q
  tb := tabs_upd W.tb fun u e => by
    rcases W.at_ n c0 p h0 hn with q | ⟨o', q, r'⟩
    · exact absurd q hd
    · rw [q] at e
      cases e
      exact ⟨(r'.plain hd).1, fun q => (r'.plain hd).2 _ q⟩
  ng := W.ng
/-- the store cut back: what was made since is forgotten -/
theorem Wd.kill {K : PySem.W.Frag} {G H : Hp} {as : List Addr} {ws : List Ce} {n : Nat} (W : Wd K G H as ws) : Wd K G H as (ws.set n .dead) where
  le := W.le
  len := by rw [List.length_set]; exact W.len
  nd := W.nd
  out := W.out
  at_ := fun i c a e e' => by
    by_cases hi : i = n
    · subst hi
      have hl : i < ws.length := by rw [← W.len]; exact (List.getElem?_eq_some_iff.mp e').1
      rw [List.getElem?_set_self hl] at e
      cases e
      exact .inl rfl
    · rw [List.getElem?_set_ne (fun z => hi z.symm)] at e
      exact W.at_ i c a e e'
  tb := W.tb
  ng := W.ng
/-! ### the slots -/
def SRep (K : PySem.W.Frag) (as : List Addr) (G : Hp) (ρ : List (Option D)) (σ : L2.St) : Prop := ρ.length = σ.length ∧ ∀ (i : Nat) (d : D), ρ[i]? = some (some d) → ∃ v, σ[i]? = some (some v) ∧ Rep K as G d v
theorem SRep.up {K : PySem.W.Frag} {as bs : List Addr} {G G' : Hp} {ρ : List (Option D)} {σ : L2.St} (hp : as <+: bs) (hG : Same G G') (h : SRep K as G ρ σ) : SRep K bs G' ρ σ := ⟨h.1, fun i d e => by
  obtain ⟨v, e', r⟩ := h.2 i d e
  exact ⟨v, e', r.up hp hG⟩⟩
theorem SRep.set {K : PySem.W.Frag} {as : List Addr} {G : Hp} {ρ : List (Option D)} {σ : L2.St} {i : Nat} {d : D} {v : V} (h : SRep K as G ρ σ) (r : Rep K as G d v) : SRep K as G (ρ.set i (some d)) (σ.set i (some v)) := ⟨by rw [List.length_set, List.length_set]; exact h.1, fun j e q => by
  by_cases hj : j = i
  · subst hj
    have hl : j < ρ.length := by have := (List.getElem?_eq_some_iff.mp q).1; rw [List.length_set] at this; exact this
    rw [List.getElem?_set_self hl] at q
    cases q
    exact ⟨v, List.getElem?_set_self (by rw [← h.1]; exact hl), r⟩
  · rw [List.getElem?_set_ne (fun z => hj z.symm)] at q
    rw [List.getElem?_set_ne (fun z => hj z.symm)]
    exact h.2 j e q⟩
theorem SRep.forget {K : PySem.W.Frag} {as : List Addr} {G : Hp} {ρ : List (Option D)} {σ : L2.St} {i : Nat} {v : Option V} (h : SRep K as G ρ σ) : SRep K as G (ρ.set i none) (σ.set i v) := ⟨by rw [List.length_set, List.length_set]; exact h.1, fun j e q => by
  by_cases hj : j = i
  · subst hj
    have hl : j < ρ.length := by have := (List.getElem?_eq_some_iff.mp q).1; rw [List.length_set] at this; exact this
    rw [List.getElem?_set_self hl] at q
    cases q
  · rw [List.getElem?_set_ne (fun z => hj z.symm)] at q
    rw [List.getElem?_set_ne (fun z => hj z.symm)]
    exact h.2 j e q⟩
/-! ### what follows -/
section
variable (K : PySem.W.Frag) (E : XK)
/-- an exception as it lies -/
def RepX (as : List Addr) (G : Hp) (e : Ex) (cls : Value) (dd : Option Addr) : Prop := cls = .ref (He.ga K e.c) ∧ ∃ vs, XdAt G dd e.ks vs ∧ e.ks.length = e.l.length ∧ Reps K as G e.l vs
def PostX (G H : Hp) (as : List Addr) (e : Ex) (ws' : List Ce) : Prop := ∀ cls dd G' H' as', Rch G H as G' H' as' → Wd K G' H' as' ws' → RepX K as' G' e cls dd → E cls dd H'
/-- rel: how an abstract answer stands for one -/
def Post {α β : Type} (rel : List Addr → Hp → α → β → Prop) (G H : Hp) (as : List Addr) (out : R α) (Q : β → Hp → Prop) : Prop := match out with
  | .ok a ws' => ∀ b G' H' as', Rch G H as G' H' as' → Wd K G' H' as' ws' → rel as' G' a b → Q b H'
  | .ex e ws' => PostX K E G H as e ws'
  | .bad => False
variable {K E}
theorem Post.from {α β : Type} {rel : List Addr → Hp → α → β → Prop} {G H G1 H1 : Hp} {as as1 : List Addr} {out : R α} {Q : β → Hp → Prop} (h : Post K E rel G H as out Q) (r : Rch G H as G1 H1 as1) : Post K E rel G1 H1 as1 out Q := by
  cases out with
  | ok a ws' => exact fun b G' H' as' q => h b G' H' as' (r.trans q)
  | ex e ws' => exact fun cls dd G' H' as' q => h cls dd G' H' as' (r.trans q)
  | bad => exact h
theorem Post.bind {α β α' β' : Type} {rel : List Addr → Hp → α → β → Prop} {rel' : List Addr → Hp → α' → β' → Prop} {G H : Hp} {as : List Addr} {out : R α} {f : α → List Ce → R α'} {Q' : β' → Hp → Prop} (h : Post K E rel' G H as (out.bind f) Q')
    {Q : β → Hp → Prop} (k : ∀ a ws1 b G1 H1 as1, Rch G H as G1 H1 as1 → Wd K G1 H1 as1 ws1 → rel as1 G1 a b → Post K E rel' G1 H1 as1 (f a ws1) Q' → Q b H1) : Post K E rel G H as out Q := by
  cases out with
  | ok a ws' => exact fun b G1 H1 as1 r w q => k a ws' b G1 H1 as1 r w q (Post.from h r)
  | ex e ws' => exact h
  | bad => exact h
theorem Post.done {α β : Type} {rel : List Addr → Hp → α → β → Prop} {G H : Hp} {as : List Addr} {a : α} {b : β} {ws : List Ce} {Q : β → Hp → Prop} (h : Post K E rel G H as (.ok a ws) Q) (w : Wd K G H as ws) (r : rel as G a b) : Q b H := h b G H as Rch.refl w r
/-- a pure last step -/
theorem Post.ofO {α β : Type} {rel : List Addr → Hp → α → β → Prop} {G H : Hp} {as : List Addr} {o : Option α} {ws : List Ce} {Q : β → Hp → Prop} (h : Post K E rel G H as (R.ofO o ws) Q) : ∃ a, o = some a ∧ Post K E rel G H as (.ok a ws) Q := by
  cases o with
  | none => exact False.elim h
  | some a => exact ⟨a, rfl, h⟩
end
def relB : List Addr → Hp → Bool → Bool → Prop := fun _ _ a b => a = b
def relO : List Addr → Hp → Option Int → Option Int → Prop := fun _ _ a b => a = b
/-! ### judgements -/
abbrev Se := List (Option D) → List Ce → R D
abbrev Sb := List (Option D) → List Ce → R Bool
abbrev Sa := List (Option D) → List Ce → R (List D)
abbrev So := List (Option D) → List Ce → R (Option Int)
/-- how a statement ends -/
inductive Fl where
  | nx | rt (d : D) | bk | ct
abbrev Ss := List (Option D) → List Ce → R (List (Option D) × Fl)
section
variable (K : PySem.W.Frag) (E : XK)
def EvE (te : TE) (f : Se) : Prop := ∀ ρ ws G H as σ Q, Wd K G H as ws → SRep K as G ρ σ → Post K E (Rep K) G H as (f ρ ws) Q → te σ H Q
def EvT (tt : TT) (f : Sb) : Prop := ∀ ρ ws G H as σ Q, Wd K G H as ws → SRep K as G ρ σ → Post K E relB G H as (f ρ ws) Q → tt σ H Q
def EvA (ta : TA) (f : Sa) : Prop := ∀ ρ ws G H as σ Q, Wd K G H as ws → SRep K as G ρ σ → Post K E (Reps K) G H as (f ρ ws) Q → ta σ H Q
def EvO (to : TO) (f : So) : Prop := ∀ ρ ws G H as σ Q, Wd K G H as ws → SRep K as G ρ σ → Post K E relO G H as (f ρ ws) Q → to σ H Q
/-- what a statement's end wants -/
def PostS (G H : Hp) (as : List Addr) (out : R (List (Option D) × Fl)) (D : Ends) : Prop := match out with
  | .ok (ρ', fl) ws' => (match fl with
    | .nx => ∀ G' H' as' σ', Rch G H as G' H' as' → Wd K G' H' as' ws' → SRep K as' G' ρ' σ' → D.nx σ' H'
    | .bk => ∀ G' H' as' σ', Rch G H as G' H' as' → Wd K G' H' as' ws' → SRep K as' G' ρ' σ' → D.bk σ' H'
    | .ct => ∀ G' H' as' σ', Rch G H as G' H' as' → Wd K G' H' as' ws' → SRep K as' G' ρ' σ' → D.ct σ' H'
    | .rt d => ∀ v G' H' as', Rch G H as G' H' as' → Wd K G' H' as' ws' → Rep K as' G' d v → D.rt v H')
  | .ex e ws' => PostX K E G H as e ws'
  | .bad => False
def EvS (ts : TS) (f : Ss) : Prop := ∀ ρ ws G H as σ D, Wd K G H as ws → SRep K as G ρ σ → PostS K E G H as (f ρ ws) D → ts D σ H
end
structure AE (K : PySem.W.Frag) (X : Cx) (E : XK) (e : Expr) (te : TE) (f : Se) : Prop where
  hK : X.K = K
  pe : PE X e te
  ev : EvE K E te f
structure AT (K : PySem.W.Frag) (X : Cx) (E : XK) (e : Expr) (tt : TT) (f : Sb) : Prop where
  hK : X.K = K
  pe : PT X e tt
  ev : EvT K E tt f
structure AW (K : PySem.W.Frag) (X : Cx) (E : XK) (e : Expr) (tt : TT) (f : Sb) : Prop where
  hK : X.K = K
  pe : PW X e tt
  ev : EvT K E tt f
structure AA (K : PySem.W.Frag) (X : Cx) (E : XK) (es : List Expr) (ta : TA) (f : Sa) : Prop where
  hK : X.K = K
  pe : PA X es ta
  ev : EvA K E ta f
structure AO (K : PySem.W.Frag) (X : Cx) (E : XK) (e : Option Expr) (to : TO) (f : So) : Prop where
  hK : X.K = K
  pe : PO X e to
  ev : EvO K E to f
structure AS (K : PySem.W.Frag) (X : Cx) (E : XK) (st : Stmt) (ts : TS) (f : Ss) : Prop where
  hK : X.K = K
  pe : PS X st ts
  ev : EvS K E ts f
structure ASs (K : PySem.W.Frag) (X : Cx) (E : XK) (sts : List Stmt) (ts : TS) (f : Ss) : Prop where
  hK : X.K = K
  pe : PSs X sts ts
  ev : EvS K E ts f
section
variable {K : PySem.W.Frag} {E : XK}
theorem PostS.from {G H G1 H1 : Hp} {as as1 : List Addr} {out : R (List (Option D) × Fl)} {D : Ends} (h : PostS K E G H as out D) (r : Rch G H as G1 H1 as1) : PostS K E G1 H1 as1 out D := by
  cases out with
  | ok a ws' =>
    obtain ⟨ρ', fl⟩ := a
    cases fl with
    | nx => exact fun G' H' as' σ' q => h G' H' as' σ' (r.trans q)
    | bk => exact fun G' H' as' σ' q => h G' H' as' σ' (r.trans q)
    | ct => exact fun G' H' as' σ' q => h G' H' as' σ' (r.trans q)
    | rt d => exact fun v G' H' as' q => h v G' H' as' (r.trans q)
  | ex e ws' => exact fun cls dd G' H' as' q => h cls dd G' H' as' (r.trans q)
  | bad => exact h
theorem PostS.bind {α β : Type} {rel : List Addr → Hp → α → β → Prop} {G H : Hp} {as : List Addr} {out : R α} {f : α → List Ce → R (List (Option D) × Fl)} {D : Ends} (h : PostS K E G H as (out.bind f) D)
    {Q : β → Hp → Prop} (k : ∀ a ws1 b G1 H1 as1, Rch G H as G1 H1 as1 → Wd K G1 H1 as1 ws1 → rel as1 G1 a b → PostS K E G1 H1 as1 (f a ws1) D → Q b H1) : Post K E rel G H as out Q := by
  cases out with
  | ok a ws' => exact fun b G1 H1 as1 r w q => k a ws' b G1 H1 as1 r w q (PostS.from h r)
  | ex e ws' => exact h
  | bad => exact h
end
end RL
set_option Elab.async false
set_option linter.all false
set_option maxRecDepth 100000
/-! RL2: rules for expressions: a semantic function each, and that the construct follows it. -/
namespace RL
open PySem PySem.Spec PyProof.Rows L2
/-! ### constants, names -/
def sC (d : D) : Se := fun _ ws => .ok d ws
def sVar (i : Nat) : Se := fun ρ ws => match ρ[i]? with
  | some (some d) => .ok d ws
  | _ => .bad
/-- the plain end of a rule -/
theorem EvE.const {K : PySem.W.Frag} {E : XK} {d : D} {v : V} (h : ∀ as G, Rep K as G d v) : EvE K E (tC v) (sC d) := fun ρ ws G H as σ Q W S P => Post.done P W (h as G)
theorem evVar {K : PySem.W.Frag} {E : XK} {i : Nat} : EvE K E (tVar i) (sVar i) := fun ρ ws G H as σ Q W S P => by
  unfold sVar at P
  cases e : ρ[i]? with
  | none =>
    rw [e] at P
    exact False.elim P
  | some o =>
    cases o with
    | none =>
      rw [e] at P
      exact False.elim P
    | some d =>
      rw [e] at P
      obtain ⟨v, e', r⟩ := S.2 i d e
      exact ⟨v, e', Post.done P W r⟩
section
variable {K : PySem.W.Frag} {X : Cx} {E : XK} {pos : Pos}
theorem av (i : Nat) {x : Str} (hK : X.K = K := by rfl) (hN : X.N[i]? = some x := by rfl) (hv : Vis X.env.scope x := by first | exact Or.inl rfl | exact Or.inr (Or.inl rfl) | exact Or.inr (Or.inr rfl)) (hd : (x == ("__debug__" : Str)) = false := by decide)
    (hcd : (x == ("__classdict__" : Str)) = false := by decide) : AE K X E (.Name x pos) (tVar i) (sVar i) := ⟨hK, pe_var hN hv hd hcd, evVar⟩
theorem ae_int {i j} (hK : X.K = K := by rfl) : AE K X E (.Constant (.int i) j pos) (tC (.int i)) (sC (.int i)) := ⟨hK, pe_int, .const fun _ _ => by simp [Rep]⟩
theorem ae_bl {b j} (hK : X.K = K := by rfl) : AE K X E (.Constant (.bool b) j pos) (tC (.bl b)) (sC (.bl b)) := ⟨hK, pe_bl, .const fun _ _ => by simp [Rep]⟩
theorem ae_non {j} (hK : X.K = K := by rfl) : AE K X E (.Constant .none j pos) (tC .non) (sC .non) := ⟨hK, pe_non, .const fun _ _ => by simp [Rep]⟩
theorem ae_str {x j} (hK : X.K = K := by rfl) : AE K X E (.Constant (.str x) j pos) (tC (.str x)) (sC (.str x)) := ⟨hK, pe_str, .const fun _ _ => by simp [Rep]⟩
theorem ae_globI {x : Str} {i : Int} (hm : ∃ t, X.mg x = some (.int i t)) (hK : X.K = K := by rfl) (hg : Gl X x := by rfl) (hd : (x == ("__debug__" : Str)) = false := by decide) : AE K X E (.Name x pos) (tC (.int i)) (sC (.int i)) :=
  let ⟨t, e⟩ := hm
  ⟨hK, pe_glob (v := .int i) hg e ⟨t, rfl⟩ hd, .const fun _ _ => by simp [Rep]⟩
end
/-! ### what an abstract value is, concretely -/
/-- the items of a tuple or list -/
def seqOf (ws : List Ce) : D → Option (List D)
  | .tup l => some l
  | .lst l => some l
  | .cell n => (match ws[n]? with
    | some (.lst l) => some l
    | _ => none)
  | _ => none
def lstOf (ws : List Ce) : D → Option (List D)
  | .lst l => some l
  | .cell n => (match ws[n]? with
    | some (.lst l) => some l
    | _ => none)
  | _ => none
def tupOf : D → Option (List D)
  | .tup l => some l
  | _ => none
section
variable {K : PySem.W.Frag} {G H : Hp} {as : List Addr} {ws : List Ce}
theorem Wd.cellAt (W : Wd K G H as ws) {n : Nat} {c : Ce} {v : V} (e : ws[n]? = some c) (hd : c ≠ .dead) (r : Rep K as G (.cell n) v) : ∃ a o, v = .ref a ∧ as[n]? = some a ∧ H a = some o ∧ RepC K as G c o := by
  simp only [Rep] at r
  obtain ⟨a, e', ev⟩ := r
  rcases W.at_ n c a e e' with q | ⟨o, q, r⟩
  · exact absurd q hd
  · exact ⟨a, o, ev, e', q, r⟩
theorem lst_rep (W : Wd K G H as ws) {d : D} {l : List D} {v : V} (e : lstOf ws d = some l) (r : Rep K as G d v) : ∃ a vs, v = .ref a ∧ H a = some (.lst vs) ∧ Reps K as G l vs := by
  cases d with
  | lst l' =>
    cases e
    simp only [Rep] at r
    obtain ⟨a, vs, e1, e2, e3⟩ := r
    exact ⟨a, vs, e1, W.le _ _ e2, e3⟩
  | cell n =>
    simp only [lstOf] at e
    cases q : ws[n]? with
    | none => rw [q] at e; cases e
    | some c =>
      rw [q] at e
      cases c with
      | lst l' =>
        cases e
        obtain ⟨a, o, e1, _, e3, e4⟩ := W.cellAt q (fun z => by cases z) r
        obtain ⟨vs, e5, e6⟩ := e4
        subst e5
        exact ⟨a, vs, e1, e3, e6⟩
      | _ => cases e
  | _ => cases e
theorem tup_rep (W : Wd K G H as ws) {d : D} {l : List D} {v : V} (e : tupOf d = some l) (r : Rep K as G d v) : ∃ a vs, v = .ref a ∧ H a = some (.tup vs) ∧ Reps K as G l vs := by
  cases d with
  | tup l' =>
    cases e
    simp only [Rep] at r
    obtain ⟨a, vs, e1, e2, e3⟩ := r
    exact ⟨a, vs, e1, W.le _ _ e2, e3⟩
  | _ => cases e
theorem seqOf_cases {d : D} {l : List D} (e : seqOf ws d = some l) : lstOf ws d = some l ∨ tupOf d = some l := by
  cases d with
  | tup l' => exact .inr e
  | lst l' => exact .inl e
  | cell n => exact .inl e
  | _ => cases e
theorem seq_rep (W : Wd K G H as ws) {d : D} {l : List D} {v : V} (e : seqOf ws d = some l) (r : Rep K as G d v) : ∃ a vs, v = .ref a ∧ (SqL K H a vs ∨ SqT K H a vs) ∧ Reps K as G l vs := by
  rcases seqOf_cases e with e | e
  · obtain ⟨a, vs, e1, e2, e3⟩ := lst_rep W e r
    exact ⟨a, vs, e1, .inl (.inl (.inl e2)), e3⟩
  · obtain ⟨a, vs, e1, e2, e3⟩ := tup_rep W e r
    exact ⟨a, vs, e1, .inr (.inl (.inl e2)), e3⟩
end
theorem small5 {n : Nat} (h : n ≤ 100000) : n ≤ sizeLine := Nat.le_trans h (by decide)
theorem small5' {n : Nat} (h : n < 100000) : n < sizeLine := Nat.lt_of_lt_of_le h (by decide)
/-! ### operators by values -/
/-- r is followed by f (which looks at the store) -/
def OpD (K : PySem.W.Frag) (r : R2) (f : List Ce → D → D → Option D) : Prop := ∀ ws G H as x y d e z Q, Wd K G H as ws → Rep K as G d x → Rep K as G e y → f ws d e = some z →
  (∀ v G' H' as', Rch G H as G' H' as' → Wd K G' H' as' ws → Rep K as' G' z v → Q v H') → r x y H Q
def sOp (f : List Ce → D → D → Option D) (a b : Se) : Se := fun ρ ws => (a ρ ws).bind fun x ws1 => (b ρ ws1).bind fun y ws2 => R.ofO (f ws2 x y) ws2
theorem evOp {K : PySem.W.Frag} {E : XK} {r : R2} {f : List Ce → D → D → Option D} {ta tb : TE} {a b : Se} (h : OpD K r f) (ha : EvE K E ta a) (hb : EvE K E tb b) : EvE K E (tOp r ta tb) (sOp f a b) := fun ρ ws G H as σ Q W S P => by
  refine ha ρ ws G H as σ _ W S (Post.bind P fun x ws1 v G1 H1 as1 r1 W1 rx P1 => ?_)
  refine hb ρ ws1 G1 H1 as1 σ _ W1 (S.up r1.pre r1.up) (Post.bind P1 fun y ws2 u G2 H2 as2 r2 W2 ry P2 => ?_)
  obtain ⟨z, e, P3⟩ := Post.ofO P2
  exact h ws2 G2 H2 as2 v u x y z Q W2 (rx.up r2.pre r2.up) ry e fun v' G' H' as' q w rep => P3 v' G' H' as' q w rep
section
variable {K : PySem.W.Frag}
theorem OpD.pure {r : R2} {f : List Ce → D → D → Option D} (h : ∀ ws G H as x y d e z Q, Wd K G H as ws → Rep K as G d x → Rep K as G e y → f ws d e = some z → (∀ v, Rep K as G z v → Q v H) → r x y H Q) : OpD K r f :=
  fun ws G H as x y d e z Q W rx ry ef k => h ws G H as x y d e z Q W rx ry ef fun v rv => k v G H as Rch.refl W rv
/-- two ints -/
def fI (c : Int → Int → Bool) (g : Int → Int → D) : List Ce → D → D → Option D := fun _ x y => match x, y with
  | .int i, .int j => if c i j = true then some (g i j) else none
  | _, _ => none
theorem opd_I {C : Int → Int → Prop} {c : Int → Int → Bool} {g : Int → Int → V} {g' : Int → Int → D} (hc : ∀ i j, c i j = true → C i j) (hg : ∀ as G i j, Rep K as G (g' i j) (g i j)) : OpD K (rI C g) (fI c g') := OpD.pure fun ws G H as x y d e z Q W rx ry ef k => by
  unfold fI at ef
  split at ef
  · rename_i i j
    split at ef
    · rename_i h
      cases ef
      simp only [Rep] at rx ry
      exact ⟨i, j, rx, ry, hc i j h, k _ (hg as G i j)⟩
    · cases ef
  · cases ef
theorem opd_I0 {g : Int → Int → V} {g' : Int → Int → D} (hg : ∀ as G i j, Rep K as G (g' i j) (g i j)) : OpD K (rI0 g) (fI (fun _ _ => true) g') := OpD.pure fun ws G H as x y d e z Q W rx ry ef k => by
  unfold fI at ef
  split at ef
  · rename_i i j
    split at ef
    · cases ef
      simp only [Rep] at rx ry
      exact ⟨i, j, rx, ry, k _ (hg as G i j)⟩
    · cases ef
  · cases ef
def fAdd := fI (fun _ _ => true) fun i j => .int (i + j)
def fSub := fI (fun _ _ => true) fun i j => .int (i - j)
def cMul (i j : Int) : Bool := (decide (-(2 ^ 64) < i) && decide (i < 2 ^ 64)) || (decide (-(2 ^ 64) < j) && decide (j < 2 ^ 64))
def fMul := fI cMul fun i j => .int (i * j)
def fFdiv := fI (fun _ j => decide (0 < j) && decide (j < 1073741824)) fun i j => .int (i / j)
def fMod := fI (fun _ j => decide (0 < j)) fun i j => .int (i % j)
def fPow := fI (fun i j => decide (0 ≤ j) && decide (j ≤ 1000000) && decide (i.natAbs < 2 ^ 64)) fun i j => .int (i ^ j.toNat)
def fLt := fI (fun _ _ => true) fun i j => .bl (decide (i < j))
def fLe := fI (fun _ _ => true) fun i j => .bl (decide (i ≤ j))
def fGt := fI (fun _ _ => true) fun i j => .bl (decide (j < i))
def fGe := fI (fun _ _ => true) fun i j => .bl (decide (j ≤ i))
theorem od_add : OpD K (rI0 fun i j => .int (i + j)) fAdd := opd_I0 fun _ _ _ _ => by simp [Rep]
theorem od_sub : OpD K (rI0 fun i j => .int (i - j)) fSub := opd_I0 fun _ _ _ _ => by simp [Rep]
theorem od_mul : OpD K (rI CMul fun i j => .int (i * j)) fMul := opd_I (fun i j h => by simp [cMul] at h; exact h) fun _ _ _ _ => by simp [Rep]
theorem od_fdiv : OpD K (rI CDiv fun i j => .int (i / j)) fFdiv := opd_I (fun i j h => by simp at h; exact h) fun _ _ _ _ => by simp [Rep]
theorem od_mod : OpD K (rI (fun _ j => 0 < j) fun i j => .int (i % j)) fMod := opd_I (fun i j h => by simp at h; exact h) fun _ _ _ _ => by simp [Rep]
theorem od_pow : OpD K (rI CPow fun i j => .int (i ^ j.toNat)) fPow := opd_I (fun i j h => by simp [and_assoc] at h; exact h) fun _ _ _ _ => by simp [Rep]
theorem od_lt : OpD K (rI0 fun i j => .bl (decide (i < j))) fLt := opd_I0 fun _ _ _ _ => by simp [Rep]
theorem od_le : OpD K (rI0 fun i j => .bl (decide (i ≤ j))) fLe := opd_I0 fun _ _ _ _ => by simp [Rep]
theorem od_gt : OpD K (rI0 fun i j => .bl (decide (j < i))) fGt := opd_I0 fun _ _ _ _ => by simp [Rep]
theorem od_ge : OpD K (rI0 fun i j => .bl (decide (j ≤ i))) fGe := opd_I0 fun _ _ _ _ => by simp [Rep]
/-- == and != of scalars -/
def scalEq : D → D → Option Bool
  | .int i, .int j => some (decide (i = j))
  | .str a, .str b => some (decide (a = b))
  | .bl a, .bl b => some (decide (a = b))
  | .non, .non => some true
  | .non, .int _ => some false
  | .int _, .non => some false
  | .non, .str _ => some false
  | .str _, .non => some false
  | .non, .bl _ => some false
  | .bl _, .non => some false
  | .int _, .str _ => some false
  | .str _, .int _ => some false
  | _, _ => none
def fEqS : List Ce → D → D → Option D := fun _ x y => (scalEq x y).map .bl
def fNeS : List Ce → D → D → Option D := fun _ x y => (scalEq x y).map fun b => .bl (!b)
theorem scalEq_ok {as : List Addr} {G : Hp} {d e : D} {x y : V} {b : Bool} (h : scalEq d e = some b) (rx : Rep K as G d x) (ry : Rep K as G e y) : scal x y = true ∧ decide (x = y) = b := by
  unfold scalEq at h
  split at h <;> first | (cases h; done) | (simp only [Rep] at rx ry; subst rx ry; cases h; exact ⟨rfl, by simp⟩)
theorem od_eqS : OpD K rEq fEqS := OpD.pure fun ws G H as x y d e z Q W rx ry ef k => by
  unfold fEqS at ef
  obtain ⟨b, h, e1⟩ := Option.map_eq_some_iff.mp ef
  obtain ⟨h1, h2⟩ := scalEq_ok h rx ry
  subst e1
  exact ⟨h1, by rw [h2]; exact k _ (by simp [Rep])⟩
theorem od_neS : OpD K rNe fNeS := OpD.pure fun ws G H as x y d e z Q W rx ry ef k => by
  unfold fNeS at ef
  obtain ⟨b, h, e1⟩ := Option.map_eq_some_iff.mp ef
  obtain ⟨h1, h2⟩ := scalEq_ok h rx ry
  subst e1
  exact ⟨h1, by rw [h2]; exact k _ (by simp [Rep])⟩
/-- texts -/
def fAddS : List Ce → D → D → Option D := fun _ x y => match x, y with
  | .str a, .str b => if a.length + b.length ≤ 100000 then some (.str (a ++ b)) else none
  | _, _ => none
theorem od_addS : OpD K (fun x y H Q => ∃ i j, x = .str i ∧ y = .str j ∧ i.length + j.length ≤ sizeLine ∧ Q (.str (i ++ j)) H) fAddS := OpD.pure fun ws G H as x y d e z Q W rx ry ef k => by
  unfold fAddS at ef
  split at ef
  · split at ef
    · rename_i h
      cases ef
      simp only [Rep] at rx ry
      exact ⟨_, _, rx, ry, small5 h, k _ (by simp [Rep])⟩
    · cases ef
  · cases ef
/-! data: nested lists and tuples of None, bools, ints, texts -/
mutual
def toPy0 : D → Option PyData
  | .non => some .none
  | .bl b => some (.bool b)
  | .int i => some (.int i)
  | .str s => some (.str s)
  | .tup l => (toPys0 l).map .tuple
  | .lst l => (toPys0 l).map .list
  | .ins _ _ _ => none
  | .cell _ => none
  | .cls _ => none
  | .fz _ => none
  | .exc _ _ _ => none
  | .dct _ _ => none
  | .dcT _ _ => none
def toPys0 : List D → Option (List PyData)
  | [] => some []
  | d :: ds => (toPy0 d).bind fun p => (toPys0 ds).map (p :: ·)
end
def toPy (ws : List Ce) : D → Option PyData
  | .cell n => (match ws[n]? with
    | some (.lst l) => (toPys0 l).map .list
    | _ => none)
  | d => toPy0 d
mutual
theorem toPy0_ok {as : List Addr} {G H : Hp} (hG : Same G H) : ∀ {d : D} {v : V} {p : PyData}, toPy0 d = some p → Rep K as G d v → Dp K H v p
  | .non, v, p, h, r => by simp [toPy0] at h; simp [Rep] at r; subst h r; exact .non
  | .bl b, v, p, h, r => by simp [toPy0] at h; simp [Rep] at r; subst h r; exact .bl b
  | .int b, v, p, h, r => by simp [toPy0] at h; simp [Rep] at r; subst h r; exact .int b
  | .str b, v, p, h, r => by simp [toPy0] at h; simp [Rep] at r; subst h r; exact .str b
  | .tup l, v, p, h, r => by
    simp only [toPy0, Option.map_eq_some_iff] at h
    obtain ⟨ps, h1, h2⟩ := h
    simp only [Rep] at r
    obtain ⟨a, vs, e1, e2, e3⟩ := r
    subst h2 e1
    exact .tup (.inl (.inl (hG _ _ e2))) (toPys0_ok hG h1 e3)
  | .lst l, v, p, h, r => by
    simp only [toPy0, Option.map_eq_some_iff] at h
    obtain ⟨ps, h1, h2⟩ := h
    simp only [Rep] at r
    obtain ⟨a, vs, e1, e2, e3⟩ := r
    subst h2 e1
    exact .lst (.inl (.inl (hG _ _ e2))) (toPys0_ok hG h1 e3)
  | .ins _ _ _, v, p, h, r => by simp [toPy0] at h
  | .cell _, v, p, h, r => by simp [toPy0] at h
  | .cls _, v, p, h, r => by simp [toPy0] at h
  | .fz _, v, p, h, r => by simp [toPy0] at h
  | .exc _ _ _, v, p, h, r => by simp [toPy0] at h
  | .dct _ _, v, p, h, r => by simp [toPy0] at h
  | .dcT _ _, v, p, h, r => by simp [toPy0] at h
theorem toPys0_ok {as : List Addr} {G H : Hp} (hG : Same G H) : ∀ {ds : List D} {vs : List V} {ps : List PyData}, toPys0 ds = some ps → Reps K as G ds vs → DpAll K H vs ps
  | [], vs, ps, h, r => by
    simp [toPys0] at h
    simp [Reps] at r
    subst h r
    exact .nil
  | d :: ds, vs, ps, h, r => by
    simp only [toPys0, Option.bind_eq_some_iff, Option.map_eq_some_iff] at h
    obtain ⟨p, h1, qs, h2, h3⟩ := h
    simp only [Reps] at r
    obtain ⟨v, vs', e1, e2, e3⟩ := r
    subst h3 e1
    exact .cons (toPy0_ok hG h1 e2) (toPys0_ok hG h2 e3)
end
theorem toPy_ok {as : List Addr} {G H : Hp} {ws : List Ce} (W : Wd K G H as ws) {d : D} {v : V} {p : PyData} (h : toPy ws d = some p) (r : Rep K as G d v) : Dp K H v p := by
  cases d with
  | cell n =>
    have h1 : (match ws[n]? with
      | some (.lst l) => (toPys0 l).map .list
      | _ => none) = some p := h
    cases q : ws[n]? with
    | none => rw [q] at h1; cases h1
    | some c =>
      rw [q] at h1
      cases c with
      | lst l =>
        obtain ⟨ps, h2, h3⟩ := Option.map_eq_some_iff.mp h1
        obtain ⟨a, o, e1, _, e3, e4⟩ := W.cellAt q (fun z => by cases z) r
        obtain ⟨vs, e5, e6⟩ := e4
        subst e5 e1 h3
        exact .lst (.inl (.inl e3)) (toPys0_ok W.le h2 e6)
      | _ => cases h1
  | _ => exact toPy0_ok W.le h r
def fEqD : List Ce → D → D → Option D := fun ws x y => (toPy ws x).bind fun p => (toPy ws y).bind fun q => if (SeqAt.shaped p && SeqAt.shaped q) = true then some (.bl (PyData.eqv p q)) else none
def fNeD : List Ce → D → D → Option D := fun ws x y => (toPy ws x).bind fun p => (toPy ws y).bind fun q => if (SeqAt.shaped p && SeqAt.shaped q) = true then some (.bl (!PyData.eqv p q)) else none
theorem od_eqD : OpD K (rEqD K) fEqD := OpD.pure fun ws G H as x y d e z Q W rx ry ef k => by
  simp only [fEqD, Option.bind_eq_some_iff] at ef
  obtain ⟨p, h1, q, h2, h3⟩ := ef
  split at h3
  · rename_i h4
    cases h3
    obtain ⟨h5, h6⟩ := Bool.and_eq_true_iff.mp h4
    exact ⟨p, q, toPy_ok W h1 rx, toPy_ok W h2 ry, h5, h6, k _ (by simp [Rep])⟩
  · cases h3
theorem od_neD : OpD K (rNeD K) fNeD := OpD.pure fun ws G H as x y d e z Q W rx ry ef k => by
  simp only [fNeD, Option.bind_eq_some_iff] at ef
  obtain ⟨p, h1, q, h2, h3⟩ := ef
  split at h3
  · rename_i h4
    cases h3
    obtain ⟨h5, h6⟩ := Bool.and_eq_true_iff.mp h4
    exact ⟨p, q, toPy_ok W h1 rx, toPy_ok W h2 ry, h5, h6, k _ (by simp [Rep])⟩
  · cases h3
/-- x in a list (data) -/
def fInD : List Ce → D → D → Option D := fun ws x y => (toPy ws x).bind fun p => (toPy ws y).bind fun q => match q with
  | .list ds => if (SeqAt.shaped p && SeqAt.shaped (.list ds)) = true then some (.bl (ds.any fun z => PyData.eqv z p)) else none
  | _ => none
def fNotInD : List Ce → D → D → Option D := fun ws x y => (toPy ws x).bind fun p => (toPy ws y).bind fun q => match q with
  | .list ds => if (SeqAt.shaped p && SeqAt.shaped (.list ds)) = true then some (.bl (!ds.any fun z => PyData.eqv z p)) else none
  | _ => none
theorem od_inD : OpD K (rInD K) fInD := OpD.pure fun ws G H as x y d e z Q W rx ry ef k => by
  simp only [fInD, Option.bind_eq_some_iff] at ef
  obtain ⟨p, h1, q, h2, h3⟩ := ef
  split at h3
  · split at h3
    · rename_i h4
      cases h3
      obtain ⟨h5, h6⟩ := Bool.and_eq_true_iff.mp h4
      exact ⟨p, _, toPy_ok W h1 rx, toPy_ok W h2 ry, h5, h6, k _ (by simp [Rep])⟩
    · cases h3
  · cases h3
theorem od_notInD : OpD K (rNotInD K) fNotInD := OpD.pure fun ws G H as x y d e z Q W rx ry ef k => by
  simp only [fNotInD, Option.bind_eq_some_iff] at ef
  obtain ⟨p, h1, q, h2, h3⟩ := ef
  split at h3
  · split at h3
    · rename_i h4
      cases h3
      obtain ⟨h5, h6⟩ := Bool.and_eq_true_iff.mp h4
      exact ⟨p, _, toPy_ok W h1 rx, toPy_ok W h2 ry, h5, h6, k _ (by simp [Rep])⟩
    · cases h3
  · cases h3
/-- x in a list or tuple of flat things -/
def flatOf : D → Option V
  | .non => some .non
  | .bl b => some (.bl b)
  | .int i => some (.int i)
  | .str s => some (.str s)
  | _ => none
theorem flatOf_ok {as : List Addr} {G : Hp} {d : D} {v u : V} (h : flatOf d = some u) (r : Rep K as G d v) : v = u ∧ flatV v = true := by
  cases d <;> simp [flatOf] at h <;> simp [Rep] at r <;> (subst h r; exact ⟨rfl, rfl⟩)
def flatsOf : List D → Option (List V)
  | [] => some []
  | d :: ds => (flatOf d).bind fun v => (flatsOf ds).map (v :: ·)
theorem flatsOf_ok {as : List Addr} {G : Hp} : ∀ {ds : List D} {vs us : List V}, flatsOf ds = some us → Reps K as G ds vs → vs = us ∧ vs.all flatV = true
  | [], vs, us, h, r => by
    simp [flatsOf] at h
    simp [Reps] at r
    subst h r
    exact ⟨rfl, rfl⟩
  | d :: ds, vs, us, h, r => by
    simp only [flatsOf, Option.bind_eq_some_iff, Option.map_eq_some_iff] at h
    obtain ⟨u, h1, us', h2, h3⟩ := h
    simp only [Reps] at r
    obtain ⟨v, vs', e1, e2, e3⟩ := r
    obtain ⟨q1, q2⟩ := flatOf_ok h1 e2
    obtain ⟨q3, q4⟩ := flatsOf_ok h2 e3
    subst h3 e1 q1 q3
    exact ⟨rfl, by rw [List.all_cons, q2, q4] <;> rfl⟩
def fInF (neg : Bool) : List Ce → D → D → Option D := fun ws x y => (flatOf x).bind fun u => (seqOf ws y).bind fun l => (flatsOf l).bind fun us => some (.bl (if neg then !inV u us else inV u us))
theorem od_inF {neg : Bool} : OpD K (rIn K neg) (fInF neg) := OpD.pure fun ws G H as x y d e z Q W rx ry ef k => by
  simp only [fInF, Option.bind_eq_some_iff] at ef
  obtain ⟨u, h1, l, h2, us, h3, h4⟩ := ef
  obtain ⟨a, vs, e1, e2, e3⟩ := seq_rep W h2 ry
  obtain ⟨q1, q2⟩ := flatOf_ok h1 rx
  obtain ⟨q3, q4⟩ := flatsOf_ok h3 e3
  cases h4
  subst q1 q3
  exact ⟨a, vs, e1, e2, q2, q4, k _ (by simp [Rep])⟩
/-- one sign in a text -/
def fInSign : List Ce → D → D → Option D := fun _ x y => match x, y with
  | .str c, .str z => (match c.cps.toList with
    | [n] => some (.bl (decide (n ∈ z.cps.toList)))
    | _ => none)
  | _, _ => none
theorem str_one {c : Str} {n : Nat} (h : c.cps.toList = [n]) : c = ⟨#[n]⟩ := by
  obtain ⟨a⟩ := c
  have : a = #[n] := by
    apply Array.toList_inj.mp
    exact h
  rw [this]
theorem od_inSign : OpD K (fun x y H Q => ∃ (c : Nat) (z : Str), x = .str ⟨#[c]⟩ ∧ y = .str z ∧ Q (.bl (decide (c ∈ z.cps.toList))) H) fInSign := OpD.pure fun ws G H as x y d e z Q W rx ry ef k => by
  unfold fInSign at ef
  split at ef
  · split at ef
    · rename_i h
      cases ef
      simp only [Rep] at rx ry
      rw [str_one h] at rx
      exact ⟨_, _, rx, ry, k _ (by simp [Rep])⟩
    · cases ef
  · cases ef
/-- xs + ys: lists -/
def fCat : List Ce → D → D → Option D := fun ws x y => (lstOf ws x).bind fun l => (lstOf ws y).bind fun m => if l.length + m.length ≤ 100000 then some (.lst (l ++ m)) else none
theorem od_cat : OpD K rCat fCat := fun ws G H as x y d e z Q W rx ry ef k => by
  simp only [fCat, Option.bind_eq_some_iff] at ef
  obtain ⟨l, h1, m, h2, h3⟩ := ef
  split at h3
  · rename_i h4
    cases h3
    obtain ⟨a, vs, e1, e2, e3⟩ := lst_rep W h1 rx
    obtain ⟨b, us, f1, f2, f3⟩ := lst_rep W h2 ry
    refine ⟨a, b, vs, us, e1, f1, e2, f2, small5 (by rw [← e3.len, ← f3.len]; exact h4), fun p hp => k _ _ _ as (Rch.new W.le hp) (W.new hp) ?_⟩
    simp only [Rep]
    exact ⟨p, _, rfl, upd_same, (e3.app f3).up (List.prefix_refl _) (Rch.new (as := as) W.le hp).up⟩
  · cases h3
/-- xs[i] -/
def fIx : List Ce → D → D → Option D := fun ws x y => match y with
  | .int i => (match x with
    | .str s => if s.length ≤ 100000 then (atI s.cps.toList i).map fun c => .str ⟨#[c]⟩ else none
    | _ => (seqOf ws x).bind fun l => atI l i)
  | _ => none
theorem Reps.atI {as : List Addr} {G : Hp} {l : List D} {vs : List V} {i : Int} {d : D} (r : Reps K as G l vs) (e : L2.atI l i = some d) : ∃ v, L2.atI vs i = some v ∧ Rep K as G d v := by
  unfold L2.atI at e ⊢
  rw [r.len] at e
  cases q : ixN vs.length i with
  | none => rw [q] at e; cases e
  | some j =>
    rw [q] at e
    exact r.get e
theorem od_ix : OpD K (rIx K) fIx := OpD.pure fun ws G H as x y d e z Q W rx ry ef k => by
  unfold fIx at ef
  split at ef
  · rename_i i
    split at ef
    · rename_i s
      split at ef
      · rename_i h
        obtain ⟨c, h1, h2⟩ := Option.map_eq_some_iff.mp ef
        subst h2
        simp only [Rep] at rx ry
        exact .inr (.inr ⟨s, i, c, rx, ry, small5 h, h1, k _ (by simp [Rep])⟩)
      · cases ef
    · simp only [Option.bind_eq_some_iff] at ef
      obtain ⟨l, h1, h2⟩ := ef
      simp only [Rep] at ry
      obtain ⟨a, vs, e1, e2, e3⟩ := seq_rep W h1 rx
      obtain ⟨v, e4, e5⟩ := e3.atI h2
      rcases e2 with e2 | e2
      · exact .inl ⟨a, vs, i, v, e1, ry, e2, e4, k _ e5⟩
      · exact .inr (.inl ⟨a, vs, i, v, e1, ry, e2, e4, k _ e5⟩)
  · cases ef
end
section
variable {K : PySem.W.Frag} {X : Cx} {E : XK} {a b c e : Expr} {ta tb tc te : TE} {sa sb sc se : Se} {pos : Pos} {f g : List Ce → D → D → Option D} {r r' : R2}
theorem ae_bin {op : Operator} (ho : OpR X (binaryOp op) r) (h : OpD K r f) (ha : AE K X E a ta sa) (hb : AE K X E b tb sb) : AE K X E (.BinOp a op b pos) (tOp r ta tb) (sOp f sa sb) := ⟨ha.hK, pe_op ho ha.pe hb.pe, evOp h ha.ev hb.ev⟩
theorem ae_cmp {op : CmpOp} (ho : OpR X (compareOp op) r) (h : OpD K r f) (ha : AE K X E a ta sa) (hb : AE K X E b tb sb) (hm : behindInMarks op b = false) : AE K X E (.Compare a [op] [b] pos) (tOp r ta tb) (sOp f sa sb) :=
  ⟨ha.hK, pe_cmpR ho ha.pe hb.pe hm, evOp h ha.ev hb.ev⟩
theorem ae_ix (ha : AE K X E a ta sa) (hb : AE K X E b tb sb) (hs : PlainIx b) : AE K X E (.Subscript a b pos) (tOp (rIx K) ta tb) (sOp fIx sa sb) := by
  have e := ha.hK
  subst e
  exact ⟨rfl, pe_ix ix_seq ha.pe hb.pe hs, evOp od_ix ha.ev hb.ev⟩
/-! ### tests -/
def sB (a : Se) : Sb := fun ρ ws => (a ρ ws).bind fun x ws1 => match x with
  | .bl b => .ok b ws1
  | _ => .bad
theorem evB {K : PySem.W.Frag} {te : TE} (h : EvE K E te se) : EvT K E (tB te) (sB se) := fun ρ ws G H as σ Q W S P => h ρ ws G H as σ _ W S (Post.bind P fun x ws1 v G1 H1 as1 r1 W1 rx P1 => by
  cases x with
  | bl b =>
    simp only [Rep] at rx
    exact ⟨b, rx, Post.done P1 W1 rfl⟩
  | _ => exact False.elim P1)
theorem at_val (h : AE K X E e te se) (he : ∀ whole, isTrue e X.env whole = (do let v ← whole; standAt e.pos; holding [v] (truthy v)) := by intro _; rfl) : AT K X E e (tB te) (sB se) := ⟨h.hK, pt_val h.pe he, evB h.ev⟩
theorem at_cmp {op : CmpOp} (ho : OpR X (compareOp op) r) (h : OpD K r f) (ha : AE K X E a ta sa) (hb : AE K X E b tb sb) (hm : behindInMarks op b = false) : AT K X E (.Compare a [op] [b] pos) (tB (tOp r ta tb)) (sB (sOp f sa sb)) :=
  ⟨ha.hK, pt_cmpR ho ha.pe hb.pe hm, evB (evOp h ha.ev hb.ev)⟩
def sNot (a : Sb) : Sb := fun ρ ws => (a ρ ws).bind fun b ws1 => .ok (!b) ws1
variable {t u v : TT} {op : CmpOp} {rest : List Expr} {ba bb : Sb}
theorem at_not (h : AT K X E a t ba) : AT K X E (.UnaryOp .Not a pos) (tNot t) (sNot ba) := by
  refine ⟨h.hK, pt_not h.pe, fun ρ ws G H as σ Q W S P => h.ev ρ ws G H as σ _ W S (Post.bind P fun x ws1 b G1 H1 as1 r1 W1 rx P1 => ?_)⟩
  cases rx
  exact Post.done P1 W1 rfl
def sAndT (a b : Sb) : Sb := fun ρ ws => (a ρ ws).bind fun x ws1 => if x = true then b ρ ws1 else .ok false ws1
def sOrT (a b : Sb) : Sb := fun ρ ws => (a ρ ws).bind fun x ws1 => if x = true then .ok true ws1 else b ρ ws1
theorem aw_and (ha : AT K X E a t ba) (hb : AW K X E (.BoolOp .And (b :: rest) pos) u bb) : AW K X E (.BoolOp .And (a :: b :: rest) pos) (tAnd t u) (sAndT ba bb) := by
  refine ⟨ha.hK, pw_and ha.pe hb.pe, fun ρ ws G H as σ Q W S P => ha.ev ρ ws G H as σ _ W S (Post.bind P fun x ws1 b G1 H1 as1 r1 W1 rx P1 => ?_)⟩
  cases rx
  cases x with
  | true => exact hb.ev ρ ws1 G1 H1 as1 σ _ W1 (S.up r1.pre r1.up) P1
  | false => exact Post.done P1 W1 rfl
theorem aw_or (ha : AT K X E a t ba) (hb : AW K X E (.BoolOp .Or (b :: rest) pos) u bb) : AW K X E (.BoolOp .Or (a :: b :: rest) pos) (tOr t u) (sOrT ba bb) := by
  refine ⟨ha.hK, pw_or ha.pe hb.pe, fun ρ ws G H as σ Q W S P => ha.ev ρ ws G H as σ _ W S (Post.bind P fun x ws1 b G1 H1 as1 r1 W1 rx P1 => ?_)⟩
  cases rx
  cases x with
  | true => exact Post.done P1 W1 rfl
  | false => exact hb.ev ρ ws1 G1 H1 as1 σ _ W1 (S.up r1.pre r1.up) P1
theorem aw_and1 (ha : AT K X E a t ba) : AW K X E (.BoolOp .And [a] pos) t ba := ⟨ha.hK, pw_and1 ha.pe, ha.ev⟩
theorem aw_or1 (ha : AT K X E a t ba) : AW K X E (.BoolOp .Or [a] pos) t ba := ⟨ha.hK, pw_or1 ha.pe, ha.ev⟩
theorem AW.at (h : AW K X E a t ba) : AT K X E a t ba := ⟨h.hK, h.pe.pt, h.ev⟩
/-! ### and, or, not, if .. else as values -/
def sAnd (a b : Se) : Se := fun ρ ws => (a ρ ws).bind fun x ws1 => match x with
  | .bl true => b ρ ws1
  | .bl false => .ok (.bl false) ws1
  | _ => .bad
def sOr (a b : Se) : Se := fun ρ ws => (a ρ ws).bind fun x ws1 => match x with
  | .bl true => .ok (.bl true) ws1
  | .bl false => b ρ ws1
  | _ => .bad
def sNotV (a : Se) : Se := fun ρ ws => (a ρ ws).bind fun x ws1 => match x with
  | .bl b => .ok (.bl (!b)) ws1
  | _ => .bad
theorem ae_and (ha : AE K X E a ta sa) (hb : AE K X E (.BoolOp .And (b :: rest) pos) tb sb) : AE K X E (.BoolOp .And (a :: b :: rest) pos) (tAndV ta tb) (sAnd sa sb) := by
  refine ⟨ha.hK, pe_and ha.pe hb.pe, fun ρ ws G H as σ Q W S P => ha.ev ρ ws G H as σ _ W S (Post.bind P fun x ws1 b G1 H1 as1 r1 W1 rx P1 => ?_)⟩
  cases x with
  | bl x =>
    simp only [Rep] at rx
    refine ⟨x, rx, ?_⟩
    cases x with
    | true => exact hb.ev ρ ws1 G1 H1 as1 σ _ W1 (S.up r1.pre r1.up) P1
    | false => exact Post.done P1 W1 (by simp [Rep])
  | _ => exact False.elim P1
theorem ae_or (ha : AE K X E a ta sa) (hb : AE K X E (.BoolOp .Or (b :: rest) pos) tb sb) : AE K X E (.BoolOp .Or (a :: b :: rest) pos) (tOrV ta tb) (sOr sa sb) := by
  refine ⟨ha.hK, pe_or ha.pe hb.pe, fun ρ ws G H as σ Q W S P => ha.ev ρ ws G H as σ _ W S (Post.bind P fun x ws1 b G1 H1 as1 r1 W1 rx P1 => ?_)⟩
  cases x with
  | bl x =>
    simp only [Rep] at rx
    refine ⟨x, rx, ?_⟩
    cases x with
    | true => exact Post.done P1 W1 (by simp [Rep])
    | false => exact hb.ev ρ ws1 G1 H1 as1 σ _ W1 (S.up r1.pre r1.up) P1
  | _ => exact False.elim P1
theorem ae_one {op : PySem.BoolOp} (ha : AE K X E a ta sa) : AE K X E (.BoolOp op [a] pos) ta sa := ⟨ha.hK, pe_one ha.pe, ha.ev⟩
theorem ae_not (ha : AE K X E a ta sa) : AE K X E (.UnaryOp .Not a pos) (tNotV ta) (sNotV sa) := by
  refine ⟨ha.hK, pe_not ha.pe, fun ρ ws G H as σ Q W S P => ha.ev ρ ws G H as σ _ W S (Post.bind P fun x ws1 b G1 H1 as1 r1 W1 rx P1 => ?_)⟩
  cases x with
  | bl x =>
    simp only [Rep] at rx
    exact ⟨x, rx, Post.done P1 W1 (by simp [Rep])⟩
  | _ => exact False.elim P1
def sIf (t : Sb) (a b : Se) : Se := fun ρ ws => (t ρ ws).bind fun x ws1 => if x = true then a ρ ws1 else b ρ ws1
theorem ae_if (hc : AT K X E c t ba) (ha : AE K X E a ta sa) (hb : AE K X E b tb sb) : AE K X E (.IfExp c a b pos) (tIf t ta tb) (sIf ba sa sb) := by
  refine ⟨ha.hK, pe_ifExp hc.pe ha.pe hb.pe, fun ρ ws G H as σ Q W S P => hc.ev ρ ws G H as σ _ W S (Post.bind P fun x ws1 b G1 H1 as1 r1 W1 rx P1 => ?_)⟩
  cases rx
  cases x with
  | true => exact ha.ev ρ ws1 G1 H1 as1 σ _ W1 (S.up r1.pre r1.up) P1
  | false => exact hb.ev ρ ws1 G1 H1 as1 σ _ W1 (S.up r1.pre r1.up) P1
/-- a < b < c -/
def sChain (f g : List Ce → D → D → Option D) (a b c : Se) : Se := fun ρ ws => (a ρ ws).bind fun x ws1 => (b ρ ws1).bind fun y ws2 => (R.ofO (f ws2 x y) ws2).bind fun z ws3 => match z with
  | .bl true => (c ρ ws3).bind fun w ws4 => R.ofO (g ws4 y w) ws4
  | .bl false => .ok (.bl false) ws3
  | _ => .bad
theorem ae_chain {op op' : CmpOp} (ho : OpR X (compareOp op) r) (h : OpD K r f) (ho' : OpR X (compareOp op') r') (h' : OpD K r' g) (ha : AE K X E a ta sa) (hb : AE K X E b tb sb) (hc : AE K X E c tc sc)
    (hm : lastMarks [op, op'] [b, c] = false := by with_unfolding_all rfl) : AE K X E (.Compare a [op, op'] [b, c] pos) (tChain r r' ta tb tc) (sChain f g sa sb sc) := by
  refine ⟨ha.hK, pe_chain ho ho' ha.pe hb.pe hc.pe hm, fun ρ ws G H as σ Q W S P => ha.ev ρ ws G H as σ _ W S (Post.bind P fun x ws1 bx G1 H1 as1 r1 W1 rx P1 => ?_)⟩
  refine hb.ev ρ ws1 G1 H1 as1 σ _ W1 (S.up r1.pre r1.up) (Post.bind P1 fun y ws2 vy G2 H2 as2 r2 W2 ry P2 => ?_)
  cases ef : f ws2 x y with
  | none =>
    rw [ef] at P2
    exact False.elim P2
  | some z =>
    rw [ef, R.ofO_some, R.bind_ok] at P2
    refine h ws2 G2 H2 as2 bx vy x y z _ W2 (rx.up r2.pre r2.up) ry ef fun vz G3 H3 as3 r3 W3 rz => ?_
    have P3 := Post.from P2 r3
    have S3 := (S.up r1.pre r1.up).up (r2.trans r3).pre (r2.trans r3).up
    cases z with
    | bl k =>
      simp only [Rep] at rz
      refine ⟨k, rz, ?_⟩
      cases k with
      | true =>
        refine hc.ev ρ ws2 G3 H3 as3 σ _ W3 S3 (Post.bind P3 fun w ws4 vw G4 H4 as4 r4 W4 rw' P4 => ?_)
        obtain ⟨z', e', P5⟩ := Post.ofO P4
        exact h' ws4 G4 H4 as4 vy vw y w z' Q W4 (ry.up (r3.trans r4).pre (r3.trans r4).up) rw' e' fun v' G' H' as' q w rep => P5 v' G' H' as' q w rep
      | false => exact Post.done P3 W3 (by simp [Rep])
    | _ => exact False.elim P3
end
/-! ### argument lists, displays -/
def sNil : Sa := fun _ ws => .ok [] ws
def sCons (a : Se) (r : Sa) : Sa := fun ρ ws => (a ρ ws).bind fun x ws1 => (r ρ ws1).bind fun xs ws2 => .ok (x :: xs) ws2
def sStar (a : Se) (r : Sa) : Sa := fun ρ ws => (a ρ ws).bind fun x ws1 => match seqOf ws1 x with
  | some l => (r ρ ws1).bind fun xs ws2 => .ok (l ++ xs) ws2
  | none => .bad
section
variable {K : PySem.W.Frag} {X : Cx} {E : XK} {e : Expr} {es : List Expr} {te : TE} {ta : TA} {se : Se} {sa : Sa} {pos p : Pos}
theorem evNil : EvA K E tNil sNil := fun ρ ws G H as σ Q W S P => Post.done P W Reps.nil
theorem aa_nil (hK : X.K = K := by rfl) : AA K X E [] tNil sNil := ⟨hK, pa_nil, evNil⟩
theorem aa_cons (he : AE K X E e te se) (hr : AA K X E es ta sa) (hs : starEach (e :: es) X.env = (false, eval e X.env) :: starEach es X.env := by rfl) : AA K X E (e :: es) (tCons te ta) (sCons se sa) := by
  refine ⟨he.hK, pa_cons he.pe hr.pe hs, fun ρ ws G H as σ Q W S P => he.ev ρ ws G H as σ _ W S (Post.bind P fun x ws1 bx G1 H1 as1 r1 W1 rx P1 => ?_)⟩
  refine hr.ev ρ ws1 G1 H1 as1 σ _ W1 (S.up r1.pre r1.up) (Post.bind P1 fun xs ws2 vs G2 H2 as2 r2 W2 rs P2 => ?_)
  exact Post.done P2 W2 (Reps.cons (rx.up r2.pre r2.up) rs)
theorem aa_star (he : AE K X E e te se) (hr : AA K X E es ta sa) (hs : starEach (.Starred e p :: es) X.env = (true, eval e X.env) :: starEach es X.env := by rfl) : AA K X E (.Starred e p :: es) (StX.tStar K te ta) (sStar se sa) := by
  have e0 := he.hK
  subst e0
  refine ⟨rfl, StX.pa_star he.pe hr.pe hs, fun ρ ws G H as σ Q W S P => he.ev ρ ws G H as σ _ W S (Post.bind P fun x ws1 bx G1 H1 as1 r1 W1 rx P1 => ?_)⟩
  cases q : seqOf ws1 x with
  | none =>
    rw [q] at P1
    exact False.elim P1
  | some l =>
    rw [q] at P1
    obtain ⟨a, vs, e1, e2, e3⟩ := seq_rep W1 q rx
    refine ⟨a, vs, e1, e2.symm, ?_⟩
    refine hr.ev ρ ws1 G1 H1 as1 σ _ W1 (S.up r1.pre r1.up) (Post.bind P1 fun xs ws2 us G2 H2 as2 r2 W2 rs P2 => ?_)
    exact Post.done P2 W2 ((e3.up r2.pre r2.up).app rs)
def sTup (a : Sa) : Se := fun ρ ws => (a ρ ws).bind fun xs ws1 => if xs.length ≤ 100000 then .ok (.tup xs) ws1 else .bad
/-- a list that is never written -/
def sLst (a : Sa) : Se := fun ρ ws => (a ρ ws).bind fun xs ws1 => if xs.length ≤ 100000 then .ok (.lst xs) ws1 else .bad
/-- a list that will be written -/
def sLstM (a : Sa) : Se := fun ρ ws => (a ρ ws).bind fun xs ws1 => if xs.length ≤ 100000 then .ok (.cell ws1.length) (ws1 ++ [.lst xs]) else .bad
theorem ae_tup {x1} (h : AA K X E es ta sa) : AE K X E (.Tuple es x1 pos) (tTup ta) (sTup sa) := by
  refine ⟨h.hK, pe_tup h.pe, fun ρ ws G H as σ Q W S P => h.ev ρ ws G H as σ _ W S (Post.bind P fun xs ws1 vs G1 H1 as1 r1 W1 rx P1 => ?_)⟩
  split at P1
  · rename_i hl
    refine ⟨small5 (by rw [← rx.len]; exact hl), fun p hp => P1 _ _ _ _ (Rch.new W1.le hp) (W1.new hp) ?_⟩
    simp only [Rep]
    exact ⟨p, vs, rfl, upd_same, rx.up (List.prefix_refl _) (Rch.new (as := as1) W1.le hp).up⟩
  · exact False.elim P1
theorem ae_lst (h : AA K X E es ta sa) : AE K X E (.List es pos) (tLst ta) (sLst sa) := by
  refine ⟨h.hK, pe_lst h.pe, fun ρ ws G H as σ Q W S P => h.ev ρ ws G H as σ _ W S (Post.bind P fun xs ws1 vs G1 H1 as1 r1 W1 rx P1 => ?_)⟩
  split at P1
  · rename_i hl
    refine ⟨small5 (by rw [← rx.len]; exact hl), fun p hp => P1 _ _ _ _ (Rch.new W1.le hp) (W1.new hp) ?_⟩
    simp only [Rep]
    exact ⟨p, vs, rfl, upd_same, rx.up (List.prefix_refl _) (Rch.new (as := as1) W1.le hp).up⟩
  · exact False.elim P1
theorem rep_cell {K : PySem.W.Frag} {G H : Hp} {as : List Addr} {ws : List Ce} {p : Addr} (W : Wd K G H as ws) : Rep K (as ++ [p]) G (.cell ws.length) (.ref p) := by
  simp only [Rep]
  exact ⟨p, by rw [← W.len]; simp, rfl⟩
theorem ae_lstM (h : AA K X E es ta sa) : AE K X E (.List es pos) (tLst ta) (sLstM sa) := by
  refine ⟨h.hK, pe_lst h.pe, fun ρ ws G H as σ Q W S P => h.ev ρ ws G H as σ _ W S (Post.bind P fun xs ws1 vs G1 H1 as1 r1 W1 rx P1 => ?_)⟩
  split at P1
  · rename_i hl
    refine ⟨small5 (by rw [← rx.len]; exact hl), fun p hp => P1 _ _ _ _ (Rch.cell hp) (W1.cell (c := .lst xs) hp ⟨vs, rfl, rx.up (prefix_snoc _ _) (Same.refl _)⟩) (rep_cell W1)⟩
  · exact False.elim P1
end
end RL
set_option Elab.async false
set_option linter.all false
set_option maxRecDepth 100000
/-! RL3: calls, attributes, methods, new instances, slices, built-ins, texts. -/
namespace RL
open PySem PySem.Spec PyProof.Rows L2
/-! ### instances -/
def okI (ks : List Str) (f : Str) (i : Nat) : Bool := decide (ks[i]? = some f) && decide (f ∉ ks.take i)
theorem lookup_zip : ∀ {ks : List Str} {vs : List V} {f : Str} {i : Nat} {v : V}, okI ks f i = true → vs[i]? = some v → (ks.zip vs).lookup f = some v
  | [], vs, f, i, v, h, e => by simp [okI] at h
  | k :: ks, [], f, i, v, h, e => by simp at e
  | k :: ks, u :: vs, f, 0, v, h, e => by
    simp [okI] at h
    simp at e
    subst h e
    show List.lookup k ((k, u) :: ks.zip vs) = some u
    simp [List.lookup]
  | k :: ks, u :: vs, f, i + 1, v, h, e => by
    simp [okI] at h
    simp at e
    have hk : (f == k) = false := beq_eq_false_iff_ne.mpr h.2.1
    show List.lookup f ((k, u) :: ks.zip vs) = some v
    simp only [List.lookup, hk]
    exact lookup_zip (i := i) (by simp [okI]; exact ⟨h.1, h.2.2⟩) e
theorem lookup_zip_none : ∀ {ks : List Str} {vs : List V} {f : Str}, f ∉ ks → (ks.zip vs).lookup f = none
  | [], vs, f, h => rfl
  | k :: ks, [], f, h => rfl
  | k :: ks, u :: vs, f, h => by
    have hk : (f == k) = false := beq_eq_false_iff_ne.mpr fun z => h (by rw [z]; exact List.mem_cons_self)
    show List.lookup f ((k, u) :: ks.zip vs) = none
    simp only [List.lookup, hk]
    exact lookup_zip_none fun z => h (List.mem_cons_of_mem _ z)
theorem putF_new : ∀ {ks : List Str} {vs : List V} {f : Str} {v : V}, f ∉ ks → ks.length = vs.length → putF f v (ks.zip vs) = (ks ++ [f]).zip (vs ++ [v])
  | [], [], f, v, h, e => rfl
  | [], _ :: _, f, v, h, e => by cases e
  | _ :: _, [], f, v, h, e => by cases e
  | k :: ks, u :: vs, f, v, h, e => by
    show (if k = f then _ else (k, u) :: putF f v (ks.zip vs)) = _
    rw [if_neg (fun z => h (by rw [z]; exact List.mem_cons_self)), putF_new (fun z => h (List.mem_cons_of_mem _ z)) (by simpa using e)]
    rfl
theorem putF_old : ∀ {ks : List Str} {vs : List V} {f : Str} {v : V} {i : Nat}, okI ks f i = true → ks.length = vs.length → putF f v (ks.zip vs) = ks.zip (vs.set i v)
  | [], vs, f, v, i, h, e => by simp [okI] at h
  | _ :: _, [], f, v, i, h, e => by cases e
  | k :: ks, u :: vs, f, v, 0, h, e => by
    simp [okI] at h
    show (if k = f then (k, v) :: ks.zip vs else _) = _
    rw [if_pos h]
    rfl
  | k :: ks, u :: vs, f, v, i + 1, h, e => by
    simp [okI] at h
    show (if k = f then _ else (k, u) :: putF f v (ks.zip vs)) = _
    rw [if_neg (fun z => h.2.1 z.symm), putF_old (i := i) (by simp [okI]; exact ⟨h.1, h.2.2⟩) (by simpa using e)]
    rfl
def insOf (ws : List Ce) (c : Str) : D → Option (List Str × List D)
  | .ins c' ks l => if c' = c then some (ks, l) else none
  | .cell n => (match ws[n]? with
    | some (.ins c' ks l) => if c' = c then some (ks, l) else none
    | _ => none)
  | _ => none
section
variable {K : PySem.W.Frag} {G H : Hp} {as : List Addr} {ws : List Ce}
theorem ins_rep (W : Wd K G H as ws) {c : Str} {d : D} {ks : List Str} {l : List D} {v : V} (e : insOf ws c d = some (ks, l)) (r : Rep K as G d v) :
    ∃ a dx vs, v = .ref a ∧ H a = some (.ins (He.ga K c) dx (ks.zip vs)) ∧ ks.length = l.length ∧ Reps K as G l vs := by
  cases d with
  | ins c' ks' l' =>
    simp only [insOf] at e
    split at e
    · rename_i hc
      cases e
      subst hc
      simp only [Rep] at r
      obtain ⟨a, dx, vs, e1, e2, e3, e4⟩ := r
      exact ⟨a, dx, vs, e1, W.le _ _ e2, e3, e4⟩
    · cases e
  | cell n =>
    simp only [insOf] at e
    cases q : ws[n]? with
    | none => rw [q] at e; cases e
    | some ce =>
      rw [q] at e
      cases ce with
      | ins c' ks' l' =>
        simp only at e
        split at e
        · rename_i hc
          cases e
          subst hc
          obtain ⟨a, o, e1, _, e3, dx, vs, e4, e5, e6⟩ := W.cellAt q (fun z => by cases z) r
          subst e4
          exact ⟨a, dx, vs, e1, e3, e5, e6⟩
        · cases e
      | _ => cases e
  | _ => cases e
end
def sAttr (c f : Str) (i : Nat) (a : Se) : Se := fun ρ ws => (a ρ ws).bind fun x ws1 => match insOf ws1 c x with
  | some (ks, l) => if okI ks f i = true then R.ofO l[i]? ws1 else .bad
  | none => .bad
section
variable {K : PySem.W.Frag} {X : Cx} {E : XK} {e o : Expr} {es : List Expr} {te to : TE} {ta : TA} {se so : Se} {sa : Sa} {pos p apos : Pos} {c f mth x : Str} {k i : Nat}
theorem ae_fld (he : AE K X E e te se) (hc : Cls K (He.ga K c)) (hn : NoAttr K (He.ga K c) f) (hb : attributeBase e f X.env (eval e X.env) = eval e X.env := by rfl) : AE K X E (.Attribute e f pos) (tFld K te f) (sAttr c f i se) := by
  have e0 := he.hK
  subst e0
  refine ⟨rfl, pe_fld he.pe hb, fun ρ ws G H as σ Q W S P => he.ev ρ ws G H as σ _ W S (Post.bind P fun d ws1 u G1 H1 as1 r1 W1 rx P1 => ?_)⟩
  cases q : insOf ws1 c d with
  | none =>
    rw [q] at P1
    exact False.elim P1
  | some kl =>
    obtain ⟨ks, l⟩ := kl
    rw [q] at P1
    simp only at P1
    split at P1
    · rename_i hk
      obtain ⟨z, hz, P2⟩ := Post.ofO P1
      obtain ⟨a, dx, vs, e1, e2, e3, e4⟩ := ins_rep W1 q rx
      obtain ⟨w, e5, e6⟩ := e4.get hz
      exact ⟨a, _, dx, _, w, e1, e2, hc, hn, lookup_zip hk e5, Post.done P2 W1 e6⟩
    · exact False.elim P1
/-! ### promises -/
abbrev Mf := List D → List Ce → R D
/-- a def's promise: it gives what m gives -/
def spM (K : PySem.W.Frag) (m : Mf) : Sp := fun vs H Q E => ∃ G as ws ds, Wd K G H as ws ∧ Reps K as G ds vs ∧ Post K E (Rep K) G H as (m ds ws) Q
/-- the def that the module's name x stands for does m -/
def Cal (P : Program) (w : World) (K : PySem.W.Frag) (mg : Str → Option Value) (base : Heap) (k : Nat) (x : Str) (m : Mf) : Prop := ∃ f fd ps, FnOk P w K mg base (L2.CX P w) k f fd ps (spM K m) ∧ mg x = some (.ref f) ∧ PySem.W.keepIn K (.ref f) = true ∧ Binds K fd ps []
/-- the method mth of the class c does m -/
def Met (P : Program) (w : World) (K : PySem.W.Frag) (mg : Str → Option Value) (base : Heap) (k : Nat) (c mth : Str) (m : Mf) : Prop := ∃ f fd ps, FnOk P w K mg base (L2.CX P w) k f fd ps (spM K m) ∧ Cls K (He.ga K c) ∧ Meth K (He.ga K c) mth f ∧ Binds K fd ps []
def sCall (m : Mf) (a : Sa) : Se := fun ρ ws => (a ρ ws).bind fun ds ws1 => m ds ws1
variable {m : Mf}
theorem evCall {K : PySem.W.Frag} {ta : TA} (h : EvA K E ta sa) : EvE K E (tCall (spM K m) [] E ta) (sCall m sa) := fun ρ ws G H as σ Q W S P => h ρ ws G H as σ _ W S (Post.bind P fun ds ws1 vs G1 H1 as1 r1 W1 rs P1 => by
  show spM K m (vs ++ []) H1 Q E
  rw [List.append_nil]
  exact ⟨G1, as1, ws1, ds, W1, rs, P1⟩)
theorem ae_call (cl : Cal X.prog X.w X.K X.mg X.base k x m) (hr : Room k X.A) (hx : Passes (L2.CX X.prog X.w) X E) (ha : AA K X E (e :: es) ta sa) (hg : Gl X x := by rfl) (hdb : (x == ("__debug__" : Str)) = false := by decide)
    (hs : starEach (e :: es) X.env = (false, eval e X.env) :: starEach es X.env := by rfl) (hpl : (backTo pos (starEach es X.env)).any (·.1) = false := by rfl) : AE K X E (.Call (.Name x p) (e :: es) [] pos) (tCall (spM K m) [] E ta) (sCall m sa) := by
  have e0 := ha.hK
  subst e0
  obtain ⟨f, fd, ps, F, hm, hk, hb⟩ := cl
  exact ⟨rfl, pe_call F hr hg hm hk hb .nil hx ha.pe hdb hs hpl, evCall ha.ev⟩
theorem ae_call0 (cl : Cal X.prog X.w X.K X.mg X.base k x m) (hr : Room k X.A) (hx : Passes (L2.CX X.prog X.w) X E) (hK : X.K = K := by rfl) (hg : Gl X x := by rfl) (hdb : (x == ("__debug__" : Str)) = false := by decide) :
    AE K X E (.Call (.Name x p) [] [] pos) (tCall (spM K m) [] E tNil) (sCall m sNil) := by
  subst hK
  obtain ⟨f, fd, ps, F, hm, hk, hb⟩ := cl
  exact ⟨rfl, pe_call0 F hr hg hm hk hb .nil hx hdb, evCall evNil⟩
def sMeth (c mth : Str) (m : Mf) (o : Se) (a : Sa) : Se := fun ρ ws => (o ρ ws).bind fun x ws1 => match insOf ws1 c x with
  | some (ks, _) => if mth ∈ ks then .bad else (a ρ ws1).bind fun ds ws2 => m (x :: ds) ws2
  | none => .bad
theorem evMeth {K : PySem.W.Frag} {to : TE} {ta : TA} {m : Mf} (ho : EvE K E to so) (h : EvA K E ta sa) : EvE K E (tMeth (He.ga K c) mth (spM K m) [] E to ta) (sMeth c mth m so sa) := fun ρ ws G H as σ Q W S P => ho ρ ws G H as σ _ W S (Post.bind P fun d ws1 u G1 H1 as1 r1 W1 rx P1 => by
  cases q : insOf ws1 c d with
  | none =>
    rw [q] at P1
    exact False.elim P1
  | some kl =>
    obtain ⟨ks, l⟩ := kl
    rw [q] at P1
    simp only at P1
    split at P1
    · exact False.elim P1
    · rename_i hk
      obtain ⟨a, dx, vs, e1, e2, e3, e4⟩ := ins_rep W1 q rx
      refine ⟨a, dx, _, e1, e2, lookup_zip_none hk, ?_⟩
      refine h ρ ws1 G1 H1 as1 σ _ W1 (S.up r1.pre r1.up) (Post.bind P1 fun ds ws2 us G2 H2 as2 r2 W2 rs P2 => ?_)
      show spM K m (u :: (us ++ [])) H2 Q E
      rw [List.append_nil]
      exact ⟨G2, as2, ws2, d :: ds, W2, Reps.cons (rx.up r2.pre r2.up) rs, P2⟩)
theorem ae_meth {pl : Sem Bool} (cl : Met X.prog X.w X.K X.mg X.base k c mth m) (hr : Room k X.A) (hx : Passes (L2.CX X.prog X.w) X E) (ho : AE K X E o to so) (ha : AA K X E (e :: es) ta sa)
    (hst : starEach (e :: es) X.env = (false, eval e X.env) :: starEach es X.env := by rfl) (hpl : (backTo pos (starEach es X.env)).any (·.1) = false := by rfl)
    (ht : eval (.Call (.Attribute o mth apos) (e :: es) [] pos) X.env = (do
      let ov ← eval o X.env
      standAt apos.atName
      let (f, first) ← holding [ov] (getMethod ov mth pl)
      callWith pos f first (backTo pos (starEach (e :: es) X.env)) (backToKw pos (keywordEach [] X.env))) := by rfl) : AE K X E (.Call (.Attribute o mth apos) (e :: es) [] pos) (tMeth (He.ga K c) mth (spM K m) [] E to ta) (sMeth c mth m so sa) := by
  have e0 := ha.hK
  subst e0
  obtain ⟨f, fd, ps, F, hc, hm, hb⟩ := cl
  exact ⟨rfl, pe_meth ho.pe hc hm F hr hb .nil hx ha.pe hst hpl ht, evMeth ho.ev ha.ev⟩
theorem ae_meth0 {pl : Sem Bool} (cl : Met X.prog X.w X.K X.mg X.base k c mth m) (hr : Room k X.A) (hx : Passes (L2.CX X.prog X.w) X E) (ho : AE K X E o to so)
    (ht : eval (.Call (.Attribute o mth apos) [] [] pos) X.env = (do
      let ov ← eval o X.env
      standAt apos.atName
      let (f, first) ← holding [ov] (getMethod ov mth pl)
      callWith pos f first (backTo pos (starEach [] X.env)) (backToKw pos (keywordEach [] X.env))) := by rfl) : AE K X E (.Call (.Attribute o mth apos) [] [] pos) (tMeth (He.ga K c) mth (spM K m) [] E to tNil) (sMeth c mth m so sNil) := by
  have e0 := ho.hK
  subst e0
  obtain ⟨f, fd, ps, F, hc, hm, hb⟩ := cl
  exact ⟨rfl, pe_meth0 ho.pe hc hm F hr hb .nil hx ht, evMeth ho.ev evNil⟩
end
/-! ### the store cut back -/
mutual
def below (n : Nat) : D → Bool
  | .tup l => belows n l
  | .lst l => belows n l
  | .ins _ _ l => belows n l
  | .cell k => decide (k < n)
  | .fz l => belows n l
  | .exc _ _ l => belows n l
  | .dct _ l => belows n l
  | .dcT _ l => belows n l
  | _ => true
def belows (n : Nat) : List D → Bool
  | [] => true
  | d :: ds => below n d && belows n ds
end
def belowC (n : Nat) : Ce → Bool
  | .lst l => belows n l
  | .ins _ _ l => belows n l
  | .dead => true
  | .dct _ l => belows n l
  | .dcT _ l => belows n l
section
variable {K : PySem.W.Frag} {as bs : List Addr} {G G0 : Hp}
theorem prefix_get' {α : Type} {as bs : List α} (h : as <+: bs) {n : Nat} {a : α} (hn : n < as.length) (e : bs[n]? = some a) : as[n]? = some a := by
  obtain ⟨r, rfl⟩ := h
  rw [List.getElem?_append_left hn] at e
  exact e
mutual
theorem Rep.down (hp : as <+: bs) : ∀ {d : D} {v : V}, below as.length d = true → Rep K bs G d v → Rep K as G d v
  | .non, v, _, h => by simpa [Rep] using h
  | .bl b, v, _, h => by simpa [Rep] using h
  | .int i, v, _, h => by simpa [Rep] using h
  | .str s, v, _, h => by simpa [Rep] using h
  | .tup l, v, b, h => by
    simp only [Rep] at h ⊢
    simp only [below] at b
    obtain ⟨a, vs, e, g, h⟩ := h
    exact ⟨a, vs, e, g, Reps.down hp b h⟩
  | .lst l, v, b, h => by
    simp only [Rep] at h ⊢
    simp only [below] at b
    obtain ⟨a, vs, e, g, h⟩ := h
    exact ⟨a, vs, e, g, Reps.down hp b h⟩
  | .ins c ks l, v, b, h => by
    simp only [Rep] at h ⊢
    simp only [below] at b
    obtain ⟨a, dx, vs, e, g, hl, h⟩ := h
    exact ⟨a, dx, vs, e, g, hl, Reps.down hp b h⟩
  | .cell n, v, b, h => by
    simp only [Rep] at h ⊢
    simp only [below, decide_eq_true_eq] at b
    obtain ⟨a, e, g⟩ := h
    exact ⟨a, prefix_get' hp b e, g⟩
  | .cls c, v, _, h => by simpa [Rep] using h
  | .fz l, v, b, h => by
    simp only [Rep] at h ⊢
    simp only [below] at b
    obtain ⟨a, vs, e, g, h⟩ := h
    exact ⟨a, vs, e, g, Reps.down hp b h⟩
  | .exc c ks l, v, b, h => by
    simp only [Rep] at h ⊢
    simp only [below] at b
    obtain ⟨a, dd, vs, e, g, x, hl, h⟩ := h
    exact ⟨a, dd, vs, e, g, x, hl, Reps.down hp b h⟩
  | .dct ks l, v, b, h => by
    simp only [Rep] at h ⊢
    simp only [below] at b
    obtain ⟨a, vs, e, g, hl, h⟩ := h
    exact ⟨a, vs, e, g, hl, Reps.down hp b h⟩
  | .dcT ks l, v, b, h => by
    simp only [Rep] at h ⊢
    simp only [below] at b
    obtain ⟨a, vs, e, g, hl, h⟩ := h
    exact ⟨a, vs, e, g, hl, Reps.down hp b h⟩
theorem Reps.down (hp : as <+: bs) : ∀ {ds : List D} {vs : List V}, belows as.length ds = true → Reps K bs G ds vs → Reps K as G ds vs
  | [], vs, _, h => by simpa [Reps] using h
  | d :: ds, vs, b, h => by
    simp only [Reps] at h ⊢
    simp only [belows, Bool.and_eq_true] at b
    obtain ⟨v, r, e, h1, h2⟩ := h
    exact ⟨v, r, e, Rep.down hp b.1 h1, Reps.down hp b.2 h2⟩
end
/-! what stood for something ahead stands for it behind, by the same cells -/
mutual
theorem Rep.back (hp : as <+: bs) : ∀ {d : D} {v v0 : V}, Rep K as G0 d v0 → Rep K bs G d v → Rep K as G d v
  | .non, v, _, _, h => by simpa [Rep] using h
  | .bl b, v, _, _, h => by simpa [Rep] using h
  | .int i, v, _, _, h => by simpa [Rep] using h
  | .str s, v, _, _, h => by simpa [Rep] using h
  | .tup l, v, v0, b, h => by
    simp only [Rep] at h b ⊢
    obtain ⟨a, vs, e, g, h⟩ := h
    obtain ⟨_, vs0, _, _, b⟩ := b
    exact ⟨a, vs, e, g, Reps.back hp b h⟩
  | .lst l, v, v0, b, h => by
    simp only [Rep] at h b ⊢
    obtain ⟨a, vs, e, g, h⟩ := h
    obtain ⟨_, vs0, _, _, b⟩ := b
    exact ⟨a, vs, e, g, Reps.back hp b h⟩
  | .ins c ks l, v, v0, b, h => by
    simp only [Rep] at h b ⊢
    obtain ⟨a, dx, vs, e, g, hl, h⟩ := h
    obtain ⟨_, _, vs0, _, _, _, b⟩ := b
    exact ⟨a, dx, vs, e, g, hl, Reps.back hp b h⟩
  | .cell n, v, v0, b, h => by
    simp only [Rep] at h b ⊢
    obtain ⟨a, e, g⟩ := h
    obtain ⟨a0, e0, g0⟩ := b
    have q := prefix_get hp e0
    rw [e] at q
    cases q
    exact ⟨a, e0, g⟩
  | .cls c, v, _, _, h => by simpa [Rep] using h
  | .fz l, v, v0, b, h => by
    simp only [Rep] at h b ⊢
    obtain ⟨a, vs, e, g, h⟩ := h
    obtain ⟨_, vs0, _, _, b⟩ := b
    exact ⟨a, vs, e, g, Reps.back hp b h⟩
  | .exc c ks l, v, v0, b, h => by
    simp only [Rep] at h b ⊢
    obtain ⟨a, dd, vs, e, g, x, hl, h⟩ := h
    obtain ⟨_, _, vs0, _, _, _, _, b⟩ := b
    exact ⟨a, dd, vs, e, g, x, hl, Reps.back hp b h⟩
  | .dct ks l, v, v0, b, h => by
    simp only [Rep] at h b ⊢
    obtain ⟨a, vs, e, g, hl, h⟩ := h
    obtain ⟨_, vs0, _, _, _, b⟩ := b
    exact ⟨a, vs, e, g, hl, Reps.back hp b h⟩
  | .dcT ks l, v, v0, b, h => by
    simp only [Rep] at h b ⊢
    obtain ⟨a, vs, e, g, hl, h⟩ := h
    obtain ⟨_, vs0, _, _, _, b⟩ := b
    exact ⟨a, vs, e, g, hl, Reps.back hp b h⟩
theorem Reps.back (hp : as <+: bs) : ∀ {ds : List D} {vs vs0 : List V}, Reps K as G0 ds vs0 → Reps K bs G ds vs → Reps K as G ds vs
  | [], vs, _, _, h => by simpa [Reps] using h
  | d :: ds, vs, vs0, b, h => by
    simp only [Reps] at h b ⊢
    obtain ⟨v, r, e, h1, h2⟩ := h
    obtain ⟨v0, r0, e0, b1, b2⟩ := b
    exact ⟨v, r, e, Rep.back hp b1 h1, Reps.back hp b2 h2⟩
end
theorem RepC.down (hp : as <+: bs) : ∀ {c : Ce} {o : HO}, belowC as.length c = true → RepC K bs G c o → RepC K as G c o
  | .lst l, o, b, h => by
    obtain ⟨vs, e, h⟩ := h
    exact ⟨vs, e, Reps.down hp b h⟩
  | .ins c ks l, o, b, h => by
    obtain ⟨dx, vs, e, hl, h⟩ := h
    exact ⟨dx, vs, e, hl, Reps.down hp b h⟩
  | .dead, o, _, _ => trivial
  | .dct ks l, o, b, h => by
    obtain ⟨vs, e, hl, h⟩ := h
    exact ⟨vs, e, hl, Reps.down hp b h⟩
  | .dcT ks l, o, b, h => by
    obtain ⟨vs, e, hl, h⟩ := h
    exact ⟨vs, e, hl, Reps.down hp b h⟩
theorem RepC.back (hp : as <+: bs) : ∀ {c : Ce} {o o0 : HO}, RepC K as G0 c o0 → RepC K bs G c o → RepC K as G c o
  | .lst l, o, o0, b, h => by
    obtain ⟨vs, e, h⟩ := h
    obtain ⟨vs0, _, b⟩ := b
    exact ⟨vs, e, Reps.back hp b h⟩
  | .ins c ks l, o, o0, b, h => by
    obtain ⟨dx, vs, e, hl, h⟩ := h
    obtain ⟨_, vs0, _, _, b⟩ := b
    exact ⟨dx, vs, e, hl, Reps.back hp b h⟩
  | .dead, o, _, _, _ => trivial
  | .dct ks l, o, o0, b, h => by
    obtain ⟨vs, e, hl, h⟩ := h
    obtain ⟨vs0, _, _, b⟩ := b
    exact ⟨vs, e, hl, Reps.back hp b h⟩
  | .dcT ks l, o, o0, b, h => by
    obtain ⟨vs, e, hl, h⟩ := h
    obtain ⟨vs0, _, _, b⟩ := b
    exact ⟨vs, e, hl, Reps.back hp b h⟩
end
/-- each of the old cells is as it was, or speaks of old cells alone -/
def cutOk (ws ws' : List Ce) : Prop := ∀ i, i < ws.length → ws'[i]? = ws[i]? ∨ ∃ c, ws'[i]? = some c ∧ belowC ws.length c = true
def cutAt (ws ws' : List Ce) (i : Nat) : Bool := decide (ws'[i]? = ws[i]?) || (match ws'[i]? with
  | some c => belowC ws.length c
  | none => false)
theorem cutAt_iff {ws ws' : List Ce} {i : Nat} : cutAt ws ws' i = true ↔ (ws'[i]? = ws[i]? ∨ ∃ c, ws'[i]? = some c ∧ belowC ws.length c = true) := by
  unfold cutAt
  rw [Bool.or_eq_true, decide_eq_true_iff]
  cases e : ws'[i]? with
  | none => simp
  | some c => simp
instance {ws ws' : List Ce} : Decidable (cutOk ws ws') := decidable_of_iff (∀ i ∈ List.range ws.length, cutAt ws ws' i = true) (by
  unfold cutOk
  simp only [List.mem_range, cutAt_iff])
theorem Wd.cut {K : PySem.W.Frag} {G0 H0 G H : Hp} {as bs : List Addr} {ws ws' : List Ce} (W0 : Wd K G0 H0 as ws) (W : Wd K G H bs ws') (hp : as <+: bs) (hc : cutOk ws ws') : Wd K G H as (ws'.take ws.length) where
  le := W.le
  len := by
    have h1 := hp.length_le
    have h2 := W0.len
    have h3 := W.len
    rw [List.length_take]
    omega
  nd := W.nd.sublist hp.sublist
  out := fun a ha => W.out a (hp.subset ha)
  at_ := fun i c a e e' => by
    have hi : i < ws.length := by rw [← W0.len]; exact (List.getElem?_eq_some_iff.mp e').1
    rw [List.getElem?_take_of_lt hi] at e
    rcases W.at_ i c a e (prefix_get hp e') with q | ⟨o, q, r⟩
    · exact .inl q
    · rcases hc i hi with h | ⟨c', h1, h2⟩
      · rw [h] at e
        rcases W0.at_ i c a e e' with q' | ⟨o0, q', r0⟩
        · exact .inl q'
        · exact .inr ⟨o, q, r0.back hp r⟩
      · rw [h1] at e
        cases e
        exact .inr ⟨o, q, r.down hp (by rw [W0.len]; exact h2)⟩
  tb := W.tb
  ng := W.ng
theorem Rch.cut {G H G' H' : Hp} {as as' : List Addr} (r : Rch G H as G' H' as') : Rch G H as G' H' as where
  up := r.up
  pre := List.prefix_refl _
  fr := r.fr
  nw := r.nw
  fs := fun _ h => .inl h
  th := r.th
/-! what is new and will not be written any more becomes fixed -/
mutual
def frzD (n : Nat) (ws : List Ce) : D → Option D
  | .non => some .non
  | .bl b => some (.bl b)
  | .int i => some (.int i)
  | .str s => some (.str s)
  | .cls c => some (.cls c)
  | .tup l => (frzDs n ws l).map .tup
  | .lst l => (frzDs n ws l).map .lst
  | .ins c ks l => (frzDs n ws l).map (.ins c ks)
  | .fz l => (frzDs n ws l).map .fz
  | .exc c ks l => (frzDs n ws l).map (.exc c ks)
  | .dct ks l => (frzDs n ws l).map (.dct ks)
  | .dcT ks l => (frzDs n ws l).map (.dcT ks)
  | .cell k => if k < n then some (.cell k) else match ws[k]? with
    | some (.lst l) => if belows n l then some (.lst l) else none
    | some (.ins c ks l) => if belows n l then some (.ins c ks l) else none
    | some (.dct ks l) => if belows n l then some (.dct ks l) else none
    | some (.dcT ks l) => if belows n l then some (.dcT ks l) else none
    | _ => none
def frzDs (n : Nat) (ws : List Ce) : List D → Option (List D)
  | [] => some []
  | d :: ds => (frzD n ws d).bind fun x => (frzDs n ws ds).map (x :: ·)
end
/-- G with what H has at l -/
def gz (G H : Hp) (l : List Addr) : Hp := fun a => if a ∈ l then H a else G a
section
variable {K : PySem.W.Frag} {G0 H0 G H : Hp} {as l : List Addr} {ws ws' : List Ce}
theorem gz_up (W : Wd K G H (as ++ l) ws') : Same G (gz G H l) := fun b o e => by
  unfold gz
  split
  · rename_i h
    rw [(W.out b (List.mem_append_right _ h)).1] at e
    cases e
  · exact e
theorem gz_out (W : Wd K G H (as ++ l) ws') {a : Addr} (ha : a ∈ as) : gz G H l a = none := by
  unfold gz
  rw [if_neg (fun h => by
    have := (List.nodup_append.mp W.nd).2.2 a ha a h
    exact this rfl)]
  exact (W.out a (List.mem_append_left _ ha)).1
theorem frz_reach (r : Rch G0 H0 as G H (as ++ l)) (W : Wd K G H (as ++ l) ws') : Rch G0 H0 as (gz G H l) H as where
  up := r.up.trans (gz_up W)
  pre := List.prefix_refl _
  fr := r.fr
  nw := fun b hb e => by
    unfold gz
    split
    · rename_i h
      rcases r.fs b (List.mem_append_right _ h) with q | q
      · exact absurd rfl ((List.nodup_append.mp W.nd).2.2 b q b h)
      · exact absurd hb q
    · exact r.nw b hb e
  fs := fun _ h => .inl h
  th := r.th
theorem frz_wd (W0 : Wd K G0 H0 as ws) (W : Wd K G H (as ++ l) ws') (hc : cutOk ws ws') : Wd K (gz G H l) H as (ws'.take ws.length) := by
  have C := W0.cut W (List.prefix_append _ _) hc
  refine ⟨fun b o e => ?_, C.len, C.nd, fun a ha => ⟨gz_out W ha, (C.out a ha).2⟩, fun i c a e e' => ?_, W.tb, fun b ps z => ?_⟩
  · unfold gz at e
    split at e
    · exact e
    · exact W.le _ _ e
  · rcases C.at_ i c a e e' with q | ⟨o, q, r⟩
    · exact .inl q
    · exact .inr ⟨o, q, r.up (List.prefix_refl _) (gz_up W)⟩
  · unfold gz at z
    split at z
    · rename_i h
      obtain ⟨o, e, k⟩ := (W.out b (List.mem_append_right _ h)).2
      rw [e] at z
      exact k ps (Option.some.inj z)
    · exact W.ng _ _ z
mutual
theorem frz_rep (W : Wd K G H (as ++ l) ws') : ∀ {d d' : D} {v : V}, frzD as.length ws' d = some d' → Rep K (as ++ l) G d v → Rep K as (gz G H l) d' v
  | .non, d', v, e, h => by simp only [frzD, Option.some.injEq] at e; subst e; simpa [Rep] using h
  | .bl b, d', v, e, h => by simp only [frzD, Option.some.injEq] at e; subst e; simpa [Rep] using h
  | .int i, d', v, e, h => by simp only [frzD, Option.some.injEq] at e; subst e; simpa [Rep] using h
  | .str s, d', v, e, h => by simp only [frzD, Option.some.injEq] at e; subst e; simpa [Rep] using h
  | .cls c, d', v, e, h => by simp only [frzD, Option.some.injEq] at e; subst e; simpa [Rep] using h
  | .tup m, d', v, e, h => by
    simp only [frzD, Option.map_eq_some_iff] at e
    obtain ⟨m', e1, e2⟩ := e
    subst e2
    simp only [Rep] at h ⊢
    obtain ⟨a, vs, e3, e4, e5⟩ := h
    exact ⟨a, vs, e3, gz_up W _ _ e4, frz_reps W e1 e5⟩
  | .lst m, d', v, e, h => by
    simp only [frzD, Option.map_eq_some_iff] at e
    obtain ⟨m', e1, e2⟩ := e
    subst e2
    simp only [Rep] at h ⊢
    obtain ⟨a, vs, e3, e4, e5⟩ := h
    exact ⟨a, vs, e3, gz_up W _ _ e4, frz_reps W e1 e5⟩
  | .fz m, d', v, e, h => by
    simp only [frzD, Option.map_eq_some_iff] at e
    obtain ⟨m', e1, e2⟩ := e
    subst e2
    simp only [Rep] at h ⊢
    obtain ⟨a, vs, e3, e4, e5⟩ := h
    exact ⟨a, vs, e3, sqL_up (gz_up W) e4, frz_reps W e1 e5⟩
  | .exc c ks m, d', v, e, h => by
    simp only [frzD, Option.map_eq_some_iff] at e
    obtain ⟨m', e1, e2⟩ := e
    subst e2
    simp only [Rep] at h ⊢
    obtain ⟨a, dd, vs, e3, e4, x, e6, e5⟩ := h
    have q := frz_reps W e1 e5
    exact ⟨a, dd, vs, e3, gz_up W _ _ e4, x.up (gz_up W), by rw [q.len, e6, e5.len], q⟩
  | .dct ks m, d', v, e, h => by
    simp only [frzD, Option.map_eq_some_iff] at e
    obtain ⟨m', e1, e2⟩ := e
    subst e2
    simp only [Rep] at h ⊢
    obtain ⟨a, vs, e3, e4, e6, e5⟩ := h
    have q := frz_reps W e1 e5
    exact ⟨a, vs, e3, gz_up W _ _ e4, by rw [q.len, e6, e5.len], q⟩
  | .dcT ks m, d', v, e, h => by
    simp only [frzD, Option.map_eq_some_iff] at e
    obtain ⟨m', e1, e2⟩ := e
    subst e2
    simp only [Rep] at h ⊢
    obtain ⟨a, vs, e3, e4, e6, e5⟩ := h
    have q := frz_reps W e1 e5
    exact ⟨a, vs, e3, gz_up W _ _ e4, by rw [q.len, e6, e5.len], q⟩
  | .ins c ks m, d', v, e, h => by
    simp only [frzD, Option.map_eq_some_iff] at e
    obtain ⟨m', e1, e2⟩ := e
    subst e2
    simp only [Rep] at h ⊢
    obtain ⟨a, dx, vs, e3, e4, e6, e5⟩ := h
    have q := frz_reps W e1 e5
    exact ⟨a, dx, vs, e3, gz_up W _ _ e4, by rw [q.len, e6, e5.len], q⟩
  | .cell k, d', v, e, h => by
    have h0 := h
    simp only [Rep] at h
    obtain ⟨a, e1, e2⟩ := h
    simp only [frzD] at e
    split at e
    · rename_i hk
      cases e
      simp only [Rep]
      exact ⟨a, by rw [List.getElem?_append_left hk] at e1; exact e1, e2⟩
    · rename_i hk
      have hal : a ∈ l := by
        rw [List.getElem?_append_right (by omega)] at e1
        exact List.mem_of_getElem? e1
      cases q : ws'[k]? with
      | none => rw [q] at e; cases e
      | some c =>
        rw [q] at e
        cases c with
        | lst m =>
          simp only at e
          split at e
          · rename_i hb
            cases e
            obtain ⟨a', o, f1, f2, f3, f4⟩ := W.cellAt q (fun z => by cases z) h0
            rw [e1] at f2
            cases f2
            obtain ⟨vs, f5, f6⟩ := f4
            subst f5
            simp only [Rep]
            refine ⟨a, vs, e2, ?_, (f6.down (List.prefix_append _ _) hb).up (List.prefix_refl _) (gz_up W)⟩
            unfold gz
            rw [if_pos hal]
            exact f3
          · cases e
        | ins c ks m =>
          simp only at e
          split at e
          · rename_i hb
            cases e
            obtain ⟨a', o, f1, f2, f3, f4⟩ := W.cellAt q (fun z => by cases z) h0
            rw [e1] at f2
            cases f2
            obtain ⟨dx, vs, f5, f7, f6⟩ := f4
            subst f5
            simp only [Rep]
            refine ⟨a, dx, vs, e2, ?_, f7, (f6.down (List.prefix_append _ _) hb).up (List.prefix_refl _) (gz_up W)⟩
            unfold gz
            rw [if_pos hal]
            exact f3
          · cases e
        | dct ks m =>
          simp only at e
          split at e
          · rename_i hb
            cases e
            obtain ⟨a', o, f1, f2, f3, f4⟩ := W.cellAt q (fun z => by cases z) h0
            rw [e1] at f2
            cases f2
            obtain ⟨vs, f5, f7, f6⟩ := f4
            subst f5
            simp only [Rep]
            refine ⟨a, vs, e2, ?_, f7, (f6.down (List.prefix_append _ _) hb).up (List.prefix_refl _) (gz_up W)⟩
            unfold gz
            rw [if_pos hal]
            exact f3
          · cases e
        | dcT ks m =>
          simp only at e
          split at e
          · rename_i hb
            cases e
            obtain ⟨a', o, f1, f2, f3, f4⟩ := W.cellAt q (fun z => by cases z) h0
            rw [e1] at f2
            cases f2
            obtain ⟨vs, f5, f7, f6⟩ := f4
            subst f5
            simp only [Rep]
            refine ⟨a, vs, e2, ?_, f7, (f6.down (List.prefix_append _ _) hb).up (List.prefix_refl _) (gz_up W)⟩
            unfold gz
            rw [if_pos hal]
            exact f3
          · cases e
        | dead => cases e
theorem frz_reps (W : Wd K G H (as ++ l) ws') : ∀ {ds ds' : List D} {vs : List V}, frzDs as.length ws' ds = some ds' → Reps K (as ++ l) G ds vs → Reps K as (gz G H l) ds' vs
  | [], ds', vs, e, h => by simp only [frzDs, Option.some.injEq] at e; subst e; rw [h.unnil]; exact Reps.nil
  | d :: ds, ds', vs, e, h => by
    simp only [frzDs, Option.bind_eq_some_iff, Option.map_eq_some_iff] at e
    obtain ⟨d', e1, ds2, e2, e3⟩ := e
    subst e3
    obtain ⟨v, vs', f1, f2, f3⟩ := h.uncons
    subst f1
    exact Reps.cons (frz_rep W e1 f2) (frz_reps W e2 f3)
end
end
/-- what was made since n is fixed and forgotten -/
def frzR (ws : List Ce) (r : R D) : R D := match r with
  | .ok d ws' => if ws'.length = ws.length then .ok d ws' else match frzD ws.length ws' d with
    | some d' => if cutOk ws ws' then .ok d' (ws'.take ws.length) else .bad
    | none => .bad
  | .ex e ws' => if ws'.length = ws.length then .ex e ws' else if belows ws.length e.l = true ∧ cutOk ws ws' then .ex e (ws'.take ws.length) else .bad
  | .bad => .bad
theorem frz_post {K : PySem.W.Frag} {E : XK} {G H : Hp} {as : List Addr} {ws : List Ce} {r : R D} {Q : VK} (W : Wd K G H as ws) (h : Post K E (Rep K) G H as (frzR ws r) Q) : Post K E (Rep K) G H as r Q := by
  cases r with
  | ok d ws' =>
    intro v G' H' as' r' W' rep
    simp only [frzR] at h
    split at h
    · exact h v G' H' as' r' W' rep
    · split at h
      · rename_i d' hd
        split at h
        · rename_i hc
          obtain ⟨l, rfl⟩ := r'.pre
          exact h v _ H' as (frz_reach r' W') (frz_wd W W' hc) (frz_rep W' (by rw [W.len]; exact hd) rep)
        · exact False.elim h
      · exact False.elim h
  | ex e ws' =>
    intro cls dd G' H' as' r' W' rep
    simp only [frzR] at h
    split at h
    · exact h cls dd G' H' as' r' W' rep
    · split at h
      · rename_i hb
        obtain ⟨e1, vs, e2, e4, e5⟩ := rep
        exact h cls dd G' H' as r'.cut (W.cut W' r'.pre hb.2) ⟨e1, vs, e2, e4, e5.down r'.pre (by rw [W.len]; exact hb.1)⟩
      · exact False.elim h
  | bad => exact False.elim h
theorem prefix_eq {α : Type} {as bs : List α} (h : as <+: bs) (e : bs.length = as.length) : bs = as := (h.eq_of_length e.symm).symm
/-- how a body ends -/
def flR (r : R (List (Option D) × Fl)) : R D := r.bind fun p ws' => match p.2 with
  | .rt d => .ok d ws'
  | .nx => .ok .non ws'
  | _ => .bad
/-- the end of a def: what it made is kept, or fixed and forgotten -/
def fin (kp : Bool) (ws : List Ce) (r : R (List (Option D) × Fl)) : R D := if kp = true then flR r else frzR ws (flR r)
theorem flR_post {K : PySem.W.Frag} {E : XK} {G H : Hp} {as : List Addr} {r : R (List (Option D) × Fl)} {Q : VK} (h : Post K E (Rep K) G H as (flR r) Q) : PostS K E G H as r { nx := fun _ H' => Q .non H', rt := Q } := by
  cases r with
  | ok a ws' =>
    obtain ⟨ρ', fl⟩ := a
    cases fl with
    | rt d => exact fun v G' H' as' r' W' rep => h v G' H' as' r' W' rep
    | nx => exact fun G' H' as' σ' r' W' rep => h .non G' H' as' r' W' (by simp [Rep])
    | bk => exact False.elim h
    | ct => exact False.elim h
  | ex e ws' => exact h
  | bad => exact False.elim h
/-- from what is wanted of the def to what is wanted of its body -/
theorem fin_post {K : PySem.W.Frag} {E : XK} {G H : Hp} {as : List Addr} {ws : List Ce} {kp : Bool} {r : R (List (Option D) × Fl)} {Q : VK} (W : Wd K G H as ws) (h : Post K E (Rep K) G H as (fin kp ws r) Q) :
    PostS K E G H as r { nx := fun _ H' => Q .non H', rt := Q } := by
  unfold fin at h
  split at h
  · exact flR_post h
  · exact flR_post (frz_post W h)
/-! ### a def by its body -/
def startD (N : List Str) (ds : List D) : List (Option D) := ds.map some ++ List.replicate (N.length - ds.length) none
theorem start_rep {K : PySem.W.Frag} {as : List Addr} {G : Hp} {N : List Str} {ds : List D} {vs : List V} (r : Reps K as G ds vs) : SRep K as G (startD N ds) (start N vs) := by
  have hl := r.len
  refine ⟨by simp [startD, L2.start, hl], fun i d e => ?_⟩
  unfold startD at e
  by_cases hi : i < ds.length
  · rw [List.getElem?_append_left (by simpa using hi), List.getElem?_map] at e
    cases q : ds[i]? with
    | none => rw [q] at e; cases e
    | some d' =>
      rw [q] at e
      cases e
      obtain ⟨v, h1, h2⟩ := r.get q
      refine ⟨v, ?_, h2⟩
      unfold L2.start
      rw [List.getElem?_append_left (by rw [List.length_map, ← hl]; exact hi), List.getElem?_map, h1]
      rfl
  · rw [List.getElem?_append_right (by simpa using hi), List.getElem?_replicate] at e
    split at e <;> cases e
/-- what a def of np parameters and the slots N does, its body being g -/
def bodyM (kp : Bool) (np : Nat) (N : List Str) (g : Ss) : List D → List Ce → R D := fun ds ws => if ds.length = np then fin kp ws (g (startD N ds) ws) else .bad
section
variable {P : Program} {w : World} {K : PySem.W.Frag} {mg : Str → Option Value} {base : Heap} {x qual : Str} {params : Arguments} {body : List Stmt} {scope : Scope} {dvs : List V} {kws : List (Str × V)} {f : Addr} {fd : FuncData}
/-- the context of a def's body -/
structure Ctx (P : Program) (w : World) (K : PySem.W.Frag) (mg : Str → Option Value) (base : Heap) (N : List Str) (scope : Scope) (k : Nat) (X : Cx) (E : XK) : Prop where
  room : Room k X.A
  tk : Takes X fun cls d _ H => E cls d H
  px : Passes (L2.CX X.prog X.w) X E
  own : PassesOwn (model X.prog X.w) X.A X.env X.xe
theorem fn_ok {N ps : List Str} {k : Nat} {g : Ss} {kp : Bool} (F : FunD K x qual params body scope dvs kws f fd) (S : FnScope N ps scope)
    (hb : ∀ (cdv : Value) (A : Around) (outer : List Env) (s : Shared) (H : Hp) (E : XK), Ctx P w K mg base N scope k (cxOf (L2.CX P w) P w K mg base N qual scope f cdv A outer s H E) E → ∃ ts, ASs K (cxOf (L2.CX P w) P w K mg base N qual scope f cdv A outer s H E) E body ts g) :
    FnOk P w K mg base (L2.CX P w) (k + 1) f fd ps (spM K (bodyM kp ps.length N g)) := by
  refine F.ok S (fun vs H Q E h => ?_) (fun cdv A outer s H vs Q E hr h => ?_)
  · obtain ⟨G, as, ws, ds, W, rs, P⟩ := h
    unfold bodyM at P
    split at P
    · rename_i e
      rw [← rs.len]
      exact e
    · exact False.elim P
  · obtain ⟨G, as, ws, ds, W, rs, Pt⟩ := h
    have tk : Takes (cxOf (L2.CX P w) P w K mg base N qual scope f cdv A outer s H E) fun cls d _ H => E cls d H := takes_of rfl rfl rfl rfl
    obtain ⟨ts, hA⟩ := hb cdv A outer s H E ⟨hr, tk, passes_call tk fun _ _ _ _ z => z, PassesOwn.leaving⟩
    refine ⟨ts, hA.pe, ?_⟩
    unfold bodyM at Pt
    split at Pt
    · exact hA.ev _ ws G H as _ _ W (start_rep rs) (fin_post W Pt)
    · exact False.elim Pt
end
end RL
set_option Elab.async false
set_option linter.all false
set_option maxRecDepth 100000
/-! RL4: statements, targets, loops, comprehensions. -/
namespace RL
open PySem PySem.Spec PyProof.Rows L2
/-! ### blocks -/
def sNext : Ss := fun ρ ws => .ok (ρ, .nx) ws
def sBad : Ss := fun _ _ => .bad
def sSeq (s t : Ss) : Ss := fun ρ ws => (s ρ ws).bind fun r ws1 => match r with
  | (ρ1, .nx) => t ρ1 ws1
  | (ρ1, fl) => .ok (ρ1, fl) ws1
section
variable {K : PySem.W.Frag} {E : XK}
theorem evSeq {t u : TS} {s r : Ss} (h1 : EvS K E t s) (h2 : EvS K E u r) : EvS K E (tSeq t u) (sSeq s r) := fun ρ ws G H as σ D W S P => by
  refine h1 ρ ws G H as σ _ W S ?_
  have P' : PostS K E G H as ((s ρ ws).bind fun r' ws1 => match r' with
    | (ρ1, .nx) => r ρ1 ws1
    | (ρ1, fl) => .ok (ρ1, fl) ws1) D := P
  cases e : s ρ ws with
  | ok a ws1 =>
    rw [e] at P'
    obtain ⟨ρ1, fl⟩ := a
    cases fl with
    | nx => exact fun G1 H1 as1 σ1 r1 W1 S1 => h2 ρ1 ws1 G1 H1 as1 σ1 D W1 S1 (PostS.from P' r1)
    | rt d => exact P'
    | bk => exact P'
    | ct => exact P'
  | ex x ws1 =>
    rw [e] at P'
    exact P'
  | bad =>
    rw [e] at P'
    exact False.elim P'
end
section
variable {K : PySem.W.Frag} {X : Cx} {E : XK} {st : Stmt} {sts rest : List Stmt} {t u : TS} {s r : Ss} {pos : Pos}
theorem ass_nil (hK : X.K = K := by rfl) : ASs K X E [] tNext sNext := ⟨hK, pss_nil, fun ρ ws G H as σ D W S P => P G H as σ Rch.refl W S⟩
theorem ass_cons (h1 : AS K X E st t s) (h2 : ASs K X E rest u r) : ASs K X E (st :: rest) (tSeq t u) (sSeq s r) := ⟨h1.hK, pss_cons h1.pe h2.pe, evSeq h1.ev h2.ev⟩
theorem ass_one (h1 : AS K X E st t s) : ASs K X E [st] t s := ⟨h1.hK, pss_one h1.pe, h1.ev⟩
theorem as_never (hK : X.K = K := by rfl) : AS K X E st tNever sBad := ⟨hK, ps_never, fun ρ ws G H as σ D W S P => P⟩
theorem ass_never (hK : X.K = K := by rfl) : ASs K X E sts tNever sBad := ⟨hK, pss_never, fun ρ ws G H as σ D W S P => P⟩
theorem as_pass (hK : X.K = K := by rfl) : AS K X E (.Pass pos) tNext sNext := ⟨hK, ps_pass, fun ρ ws G H as σ D W S P => P G H as σ Rch.refl W S⟩
/-! ### return, expressions, if -/
variable {e c : Expr} {te : TE} {se : Se} {tc : TT} {ba : Sb} {a b : List Stmt}
def sRet (a : Se) : Ss := fun ρ ws => (a ρ ws).bind fun d ws1 => .ok (ρ, .rt d) ws1
def sExpr (a : Se) : Ss := fun ρ ws => (a ρ ws).bind fun _ ws1 => .ok (ρ, .nx) ws1
def sIfS (t : Sb) (a b : Ss) : Ss := fun ρ ws => (t ρ ws).bind fun x ws1 => if x = true then a ρ ws1 else b ρ ws1
theorem as_ret (he : AE K X E e te se) : AS K X E (.Return (some e) pos) (tRet te) (sRet se) :=
  ⟨he.hK, ps_ret he.pe, fun ρ ws G H as σ D W S P => he.ev ρ ws G H as σ _ W S (PostS.bind P fun d ws1 v G1 H1 as1 r1 W1 rx P1 => P1 v G1 H1 as1 Rch.refl W1 rx)⟩
theorem as_retN (hK : X.K = K := by rfl) : AS K X E (.Return none pos) tRetN (sRet (sC .non)) := ⟨hK, ps_retN, fun ρ ws G H as σ D W S P => P .non G H as Rch.refl W (by simp [Rep])⟩
theorem as_expr (he : AE K X E e te se) (hs : swapsWith e none pos.line X.env = pure false := by rfl) : AS K X E (.Expr e pos) (tDrop te) (sExpr se) :=
  ⟨he.hK, ps_expr he.pe hs, fun ρ ws G H as σ D W S P => he.ev ρ ws G H as σ _ W S (PostS.bind P fun d ws1 v G1 H1 as1 r1 W1 rx P1 => P1 G1 H1 as1 σ Rch.refl W1 (S.up r1.pre r1.up))⟩
theorem as_if (hc : AT K X E c tc ba) (ha : ASs K X E a t s) (hb : ASs K X E b u r) : AS K X E (.If c a b pos) (tIfS tc t u) (sIfS ba s r) := by
  refine ⟨hc.hK, ps_if hc.pe ha.pe hb.pe, fun ρ ws G H as σ D W S P => hc.ev ρ ws G H as σ _ W S (PostS.bind P fun x ws1 b G1 H1 as1 r1 W1 rx P1 => ?_)⟩
  cases rx
  cases x with
  | true => exact ha.ev ρ ws1 G1 H1 as1 σ _ W1 (S.up r1.pre r1.up) P1
  | false => exact hb.ev ρ ws1 G1 H1 as1 σ _ W1 (S.up r1.pre r1.up) P1
end
/-! ### targets -/
/-- only the slots sl have changed -/
def Chg (sl : List Nat) (σ σ' : L2.St) : Prop := σ'.length = σ.length ∧ ∀ j, j ∉ sl → σ'[j]? = σ[j]?
theorem Chg.refl {sl : List Nat} {σ : L2.St} : Chg sl σ σ := ⟨rfl, fun _ _ => rfl⟩
theorem Chg.trans {s1 s2 : List Nat} {σ σ1 σ2 : L2.St} (a : Chg s1 σ σ1) (b : Chg s2 σ1 σ2) : Chg (s1 ++ s2) σ σ2 := ⟨b.1.trans a.1, fun j h => by
  rw [List.mem_append, not_or] at h
  rw [b.2 j h.2, a.2 j h.1]⟩
theorem Chg.set {i : Nat} {σ : L2.St} {v : Option V} : Chg [i] σ (σ.set i v) := ⟨List.length_set, fun j h => List.getElem?_set_ne (fun z => h (by rw [z]; simp))⟩
theorem wipe_get {σ : L2.St} : ∀ {vs : List Nat} {j : Nat}, (wipe σ vs)[j]? = if j ∈ vs ∧ j < σ.length then some none else σ[j]?
  | [], j => by simp [wipe]
  | v :: vs, j => by
    unfold wipe
    by_cases h : v = j
    · subst h
      by_cases hl : v < σ.length
      · rw [List.getElem?_set_self (by rw [wipe_length]; exact hl), if_pos ⟨List.mem_cons_self, hl⟩]
      · rw [List.getElem?_eq_none (by rw [List.length_set, wipe_length]; omega), if_neg (fun z => hl z.2), List.getElem?_eq_none (by omega)]
    · rw [List.getElem?_set_ne h, wipe_get]
      by_cases hv : j ∈ vs
      · by_cases hl : j < σ.length
        · rw [if_pos ⟨hv, hl⟩, if_pos ⟨List.mem_cons_of_mem _ hv, hl⟩]
        · rw [if_neg (fun z => hl z.2), if_neg (fun z => hl z.2)]
      · rw [if_neg (fun z => hv z.1), if_neg (fun z => by
          rcases List.mem_cons.mp z.1 with q | q
          · exact h q.symm
          · exact hv q)]
theorem wipe_chg {sl vs : List Nat} {σ σ' : L2.St} (c : Chg sl σ σ') (h : ∀ i ∈ sl, i ∈ vs) : wipe σ' vs = wipe σ vs := by
  apply List.ext_getElem?
  intro j
  rw [wipe_get, wipe_get, c.1]
  by_cases hj : j ∈ vs ∧ j < σ.length
  · rw [if_pos hj, if_pos hj]
  · rw [if_neg hj, if_neg hj]
    by_cases hs : j ∈ sl
    · have : ¬ j < σ.length := fun z => hj ⟨h j hs, z⟩
      rw [List.getElem?_eq_none (by rw [c.1]; omega), List.getElem?_eq_none (by omega)]
    · exact c.2 j hs
theorem wipe_wipe {σ : L2.St} {vs : List Nat} : wipe (wipe σ vs) vs = wipe σ vs := by
  apply List.ext_getElem?
  intro j
  rw [wipe_get, wipe_get, wipe_length]
  by_cases hj : j ∈ vs ∧ j < σ.length
  · rw [if_pos hj, if_pos hj]
  · rw [if_neg hj, if_neg hj]
def wipeD (ρ : List (Option D)) : List Nat → List (Option D)
  | [] => ρ
  | v :: vs => (wipeD ρ vs).set v none
theorem SRep.wipe {K : PySem.W.Frag} {as : List Addr} {G : Hp} {ρ : List (Option D)} {σ : L2.St} : ∀ {vs : List Nat}, SRep K as G ρ σ → SRep K as G (wipeD ρ vs) (L2.wipe σ vs)
  | [], h => h
  | v :: vs, h => (SRep.wipe (vs := vs) h).forget
abbrev Tg := D → List (Option D) → List Ce → R (List (Option D))
def relS (K : PySem.W.Frag) (sl : List Nat) (σ : L2.St) : List Addr → Hp → List (Option D) → L2.St → Prop := fun as G ρ' σ' => SRep K as G ρ' σ' ∧ Chg sl σ σ'
def EvG (K : PySem.W.Frag) (E : XK) (g : TG) (sl : List Nat) (t : Tg) : Prop := ∀ d v ρ ws G H as σ Q, Wd K G H as ws → SRep K as G ρ σ → Rep K as G d v → Post K E (relS K sl σ) G H as (t d ρ ws) Q → g v σ H Q
structure AG (K : PySem.W.Frag) (X : Cx) (E : XK) (tg : Expr) (g : TG) (sl : List Nat) (t : Tg) : Prop where
  hK : X.K = K
  pe : PG X tg g
  ev : EvG K E g sl t
abbrev Tgs := List D → List (Option D) → List Ce → R (List (Option D))
def EvGs (K : PySem.W.Frag) (E : XK) (g : TGs) (sl : List Nat) (t : Tgs) : Prop := ∀ ds vs ρ ws G H as σ Q, Wd K G H as ws → SRep K as G ρ σ → Reps K as G ds vs → Post K E (relS K sl σ) G H as (t ds ρ ws) Q → g vs σ H Q
structure AGs (K : PySem.W.Frag) (X : Cx) (E : XK) (tgs : List Expr) (g : TGs) (sl : List Nat) (t : Tgs) : Prop where
  hK : X.K = K
  pe : PGs X tgs g
  ev : EvGs K E g sl t
def tgName (i : Nat) : Tg := fun d ρ ws => .ok (ρ.set i (some d)) ws
def tgNil : Tgs := fun ds ρ ws => match ds with
  | [] => .ok ρ ws
  | _ => .bad
def tgCons (t : Tg) (u : Tgs) : Tgs := fun ds ρ ws => match ds with
  | [] => .bad
  | d :: r => (t d ρ ws).bind fun ρ1 ws1 => u r ρ1 ws1
def tgTup (n : Nat) (t : Tgs) : Tg := fun d ρ ws => match tupOf d with
  | some l => if l.length = n then t l ρ ws else .bad
  | none => .bad
section
variable {K : PySem.W.Frag} {X : Cx} {E : XK} {pos : Pos}
theorem evName {i : Nat} : EvG K E (gName i) [i] (tgName i) := fun d v ρ ws G H as σ Q W S r P => P _ G H as Rch.refl W ⟨S.set r, Chg.set⟩
theorem ag_name (i : Nat) {x : Str} (hN : X.N.Nodup) (hK : X.K = K := by rfl) (hi : X.N[i]? = some x := by rfl) (hx : Loc X.env.scope x := by first | exact .inl rfl | exact .inr rfl) (hf : X.fn x = true ∨ X.env.scope.names.lookup x = some .local := by first | exact .inl rfl | exact .inr rfl) :
    AG K X E (.Name x pos) (gName i) [i] (tgName i) := ⟨hK, pg_name hN hi hx hf, evName⟩
theorem ags_nil (hK : X.K = K := by rfl) : AGs K X E [] gNil [] tgNil := ⟨hK, pgs_nil, fun ds vs ρ ws G H as σ Q W S r P => by
  cases ds with
  | nil =>
    rw [r.unnil]
    exact ⟨rfl, P σ G H as Rch.refl W ⟨S, Chg.refl⟩⟩
  | cons _ _ => exact False.elim P⟩
theorem Post.chg {s1 s2 : List Nat} {G H : Hp} {as : List Addr} {σ σ1 : L2.St} {out : R (List (Option D))} {Q : L2.St → Hp → Prop} (c : Chg s1 σ σ1) (P : Post K E (relS K (s1 ++ s2) σ) G H as out Q) : Post K E (relS K s2 σ1) G H as out Q := by
  cases out with
  | ok a ws' => exact fun b G' H' as' r w q => P b G' H' as' r w ⟨q.1, c.trans q.2⟩
  | ex e ws' => exact P
  | bad => exact P
theorem ags_cons {e : Expr} {es : List Expr} {t : TG} {u : TGs} {s1 s2 : List Nat} {f : Tg} {g : Tgs} (h1 : AG K X E e t s1 f) (h2 : AGs K X E es u s2 g)
    (hs : (assignEach (e :: es) X.env).map (·.2) = assign e X.env :: (assignEach es X.env).map (·.2) := by rfl) : AGs K X E (e :: es) (gCons t u) (s1 ++ s2) (tgCons f g) :=
  ⟨h1.hK, pgs_cons h1.pe h2.pe hs, fun ds vs ρ ws G H as σ Q W S r P => by
    cases ds with
    | nil => exact False.elim P
    | cons d ds =>
      obtain ⟨v, vs', e1, e2, e3⟩ := r.uncons
      refine ⟨v, vs', e1, ?_⟩
      have P' : Post K E (relS K (s1 ++ s2) σ) G H as ((f d ρ ws).bind fun ρ1 ws1 => g ds ρ1 ws1) Q := P
      refine h1.ev d v ρ ws G H as σ _ W S e2 (Post.bind P' fun ρ1 ws1 σ1 G1 H1 as1 r1 W1 rs P1 => ?_)
      exact h2.ev ds vs' ρ1 ws1 G1 H1 as1 σ1 Q W1 rs.1 (e3.up r1.pre r1.up) (Post.chg rs.2 P1)⟩
theorem ag_tup {es : List Expr} {k : Nat} {t : TGs} {n : Nat} {sl : List Nat} {f : Tgs} (h : AGs K X E es t sl f) (hc : X.calm = true := by rfl)
    (hn : (assignEach es X.env).length = n := by rfl) (hst : (assignEach es X.env).findIdx? (·.1) = none := by rfl) : AG K X E (.Tuple es k pos) (gTup K n t) sl (tgTup n f) := by
  have e0 := h.hK
  subst e0
  refine ⟨rfl, pg_tup hc h.pe hn hst, fun d v ρ ws G H as σ Q W S r P => ?_⟩
  unfold tgTup at P
  cases q : tupOf d with
  | none =>
    rw [q] at P
    exact False.elim P
  | some l =>
    rw [q] at P
    simp only at P
    split at P
    · rename_i hl
      obtain ⟨a, vs, e1, e2, e3⟩ := tup_rep W q r
      exact ⟨a, vs, e1, .inl (.inl e2), by rw [← e3.len]; exact hl, h.ev l vs ρ ws G H as σ Q W S e3 P⟩
    · exact False.elim P
/-! ### assignments -/
variable {e tg : Expr} {te : TE} {se : Se} {g : TG} {sl : List Nat} {t : Tg}
def sAsg (a : Se) (t : Tg) : Ss := fun ρ ws => (a ρ ws).bind fun d ws1 => (t d ρ ws1).bind fun ρ1 ws2 => .ok (ρ1, .nx) ws2
theorem evAsg (he : EvE K E te se) (hg : EvG K E g sl t) : EvS K E (tAsg te g) (sAsg se t) := fun ρ ws G H as σ D W S P => he ρ ws G H as σ _ W S (PostS.bind P fun d ws1 v G1 H1 as1 r1 W1 rx P1 =>
  hg d v ρ ws1 G1 H1 as1 σ _ W1 (S.up r1.pre r1.up) rx (PostS.bind P1 fun ρ1 ws2 σ1 G2 H2 as2 r2 W2 rs P2 => P2 G2 H2 as2 σ1 Rch.refl W2 rs.1))
theorem as_asg (he : AE K X E e te se) (hg : AG K X E tg g sl t) (hs : swapsWithSole [tg] e pos.line X.env = pure false := by rfl) (hw : swappedStores [tg] e X.env = pure none := by rfl)
    (h1 : (assignEach [tg] X.env).map (·.2) = [assign tg X.env] := by rfl) : AS K X E (.Assign [tg] e pos) (tAsg te g) (sAsg se t) := ⟨he.hK, ps_asg he.pe hg.pe hs hw h1, evAsg he.ev hg.ev⟩
def sSet (i : Nat) (a : Se) : Ss := fun ρ ws => (a ρ ws).bind fun d ws1 => .ok (ρ.set i (some d), .nx) ws1
theorem evSet {i : Nat} (he : EvE K E te se) : EvS K E (tAsg te (gName i)) (sSet i se) := fun ρ ws G H as σ D W S P => he ρ ws G H as σ _ W S (PostS.bind P fun d ws1 v G1 H1 as1 r1 W1 rx P1 => P1 G1 H1 as1 _ Rch.refl W1 ((S.up r1.pre r1.up).set rx))
theorem as_set (i : Nat) {x : Str} {pos' : Pos} (hN : X.N.Nodup) (he : AE K X E e te se) (hi : X.N[i]? = some x := by rfl) (hx : Loc X.env.scope x := by first | exact .inl rfl | exact .inr rfl)
    (hs : swapsWith e (some (.Name x pos')) pos.line X.env = pure false := by rfl) (hf : X.fn x = true ∨ X.env.scope.names.lookup x = some .local := by first | exact .inl rfl | exact .inr rfl) : AS K X E (.Assign [.Name x pos'] e pos) (tAsg te (gName i)) (sSet i se) :=
  ⟨he.hK, ps_set hN hi hx he.pe hs hf, evSet he.ev⟩
def sPar (is : List Nat) (a : Sa) : Ss := fun ρ ws => (a ρ ws).bind fun ds ws1 => match is, ds with
  | [i, j], [d, e] => .ok ((ρ.set i (some d)).set j (some e), .nx) ws1
  | [i, j, k], [d, e, f] => .ok (((ρ.set i (some d)).set j (some e)).set k (some f), .nx) ws1
  | _, _ => .bad
theorem as_par (i j : Nat) {x y : Str} {a b : Expr} {ta : TA} {sa : Sa} {px py pt : Pos} {kt k2 pt2} (hN : X.N.Nodup) (ha : AA K X E [a, b] ta sa) (hij : i ≠ j := by decide) (hc : X.calm = true := by rfl) (hi : X.N[i]? = some x := by rfl) (hj : X.N[j]? = some y := by rfl)
    (hx : X.env.scope.names.lookup x = some .local := by rfl) (hy : X.env.scope.names.lookup y = some .local := by rfl)
    (hw : swappedStores [.Tuple [.Name x px, .Name y py] kt pt] (.Tuple [a, b] k2 pt2) X.env = pure (some [x, y]) := by rfl)
    (hs : swapsWithSole [.Tuple [.Name x px, .Name y py] kt pt] (.Tuple [a, b] k2 pt2) pos.line X.env = pure false := by rfl) :
    AS K X E (.Assign [.Tuple [.Name x px, .Name y py] kt pt] (.Tuple [a, b] k2 pt2) pos) (tPar i j ta) (sPar [i, j] sa) := by
  refine ⟨ha.hK, ps_par hc hN hi hj hij hx hy ha.pe hw hs, fun ρ ws G H as σ D W S P => ha.ev ρ ws G H as σ _ W S (PostS.bind P fun ds ws1 vs G1 H1 as1 r1 W1 rx P1 => ?_)⟩
  split at P1
  · rename_i i' j' d e h1
    cases h1
    obtain ⟨v, vs1, e1, e2, e3⟩ := rx.uncons
    obtain ⟨u, vs2, f1, f2, f3⟩ := e3.uncons
    rw [f3.unnil] at f1
    subst f1 e1
    exact ⟨v, u, rfl, P1 G1 H1 as1 _ Rch.refl W1 (((S.up r1.pre r1.up).set e2).set f2)⟩
  · rename_i h1
    cases h1
  · exact False.elim P1
theorem as_par3 (i j l : Nat) {x y z : Str} {a b c : Expr} {ta : TA} {sa : Sa} {px py pz pt : Pos} {kt k2 pt2} (hN : X.N.Nodup) (ha : AA K X E [a, b, c] ta sa) (hij : i ≠ j := by decide) (hil : i ≠ l := by decide) (hjl : j ≠ l := by decide) (hc : X.calm = true := by rfl) (hi : X.N[i]? = some x := by rfl) (hj : X.N[j]? = some y := by rfl) (hl : X.N[l]? = some z := by rfl)
    (hx : X.env.scope.names.lookup x = some .local := by rfl) (hy : X.env.scope.names.lookup y = some .local := by rfl) (hz : X.env.scope.names.lookup z = some .local := by rfl)
    (hw : swappedStores [.Tuple [.Name x px, .Name y py, .Name z pz] kt pt] (.Tuple [a, b, c] k2 pt2) X.env = pure (some [x, y, z]) := by rfl)
    (hs : swapsWithSole [.Tuple [.Name x px, .Name y py, .Name z pz] kt pt] (.Tuple [a, b, c] k2 pt2) pos.line X.env = pure false := by rfl) :
    AS K X E (.Assign [.Tuple [.Name x px, .Name y py, .Name z pz] kt pt] (.Tuple [a, b, c] k2 pt2) pos) (tPar3 i j l ta) (sPar [i, j, l] sa) := by
  refine ⟨ha.hK, ps_par3 hc hN hi hj hl hij hil hjl hx hy hz ha.pe hw hs, fun ρ ws G H as σ D W S P => ha.ev ρ ws G H as σ _ W S (PostS.bind P fun ds ws1 vs G1 H1 as1 r1 W1 rx P1 => ?_)⟩
  split at P1
  · rename_i h1
    cases h1
  · rename_i i' j' k' d e f h1
    cases h1
    obtain ⟨v, vs1, e1, e2, e3⟩ := rx.uncons
    obtain ⟨u, vs2, f1, f2, f3⟩ := e3.uncons
    obtain ⟨w, vs3, g1, g2, g3⟩ := f3.uncons
    rw [g3.unnil] at g1
    subst g1 f1 e1
    exact ⟨v, u, w, rfl, P1 G1 H1 as1 _ Rch.refl W1 ((((S.up r1.pre r1.up).set e2).set f2).set g2)⟩
  · exact False.elim P1
/-- x += e -/
def sAug (i : Nat) (f : D → D → Option D) (a : Se) : Ss := fun ρ ws => match ρ[i]? with
  | some (some x) => (a ρ ws).bind fun y ws1 => (R.ofO (f x y) ws1).bind fun z ws2 => .ok (ρ.set i (some z), .nx) ws2
  | _ => .bad
def gI (g : Int → Int → Int) : D → D → Option D := fun x y => match x, y with
  | .int i, .int j => some (.int (g i j))
  | _, _ => none
theorem as_aug (i : Nat) {x : Str} {pos' : Pos} {op : Operator} {f : Int → Int → Int} (hN : X.N.Nodup) (ho : PIp X op (ipI f)) (he : AE K X E e te se) (hi : X.N[i]? = some x := by rfl) (hx : Loc X.env.scope x := by first | exact .inl rfl | exact .inr rfl)
    (hf : X.fn x = true ∨ X.env.scope.names.lookup x = some .local := by first | exact .inl rfl | exact .inr rfl) : AS K X E (.AugAssign (.Name x pos') op e pos) (tAug i te (ipI f)) (sAug i (gI f) se) := by
  refine ⟨he.hK, ps_aug hN hi hx he.pe ho hf, fun ρ ws G H as σ D W S P => ?_⟩
  unfold sAug at P
  cases q : ρ[i]? with
  | none => rw [q] at P; exact False.elim P
  | some o =>
    cases o with
    | none => rw [q] at P; exact False.elim P
    | some d =>
      rw [q] at P
      obtain ⟨v, e1, e2⟩ := S.2 i d q
      refine ⟨v, e1, he.ev ρ ws G H as σ _ W S (PostS.bind P fun y ws1 u G1 H1 as1 r1 W1 rx P1 => ?_)⟩
      cases ef : gI f d y with
      | none => rw [ef] at P1; exact False.elim P1
      | some z =>
        rw [ef, R.ofO_some, R.bind_ok] at P1
        unfold gI at ef
        split at ef
        · cases ef
          simp only [Rep] at rx e2
          exact ⟨_, _, e2, rx, P1 G1 H1 as1 _ Rch.refl W1 ((S.up r1.pre r1.up).set (by simp [Rep]))⟩
        · cases ef
/-! ### fields stored -/
theorem Reps.setR {as : List Addr} {G : Hp} {d : D} {v : V} (r : Rep K as G d v) : ∀ {ds : List D} {vs : List V} {i : Nat}, Reps K as G ds vs → Reps K as G (ds.set i d) (vs.set i v)
  | [], vs, i, h => by
    rw [h.unnil]
    exact Reps.nil
  | d' :: ds, vs, 0, h => by
    obtain ⟨u, us, e, h1, h2⟩ := h.uncons
    rw [e]
    exact Reps.cons r h2
  | d' :: ds, vs, i + 1, h => by
    obtain ⟨u, us, e, h1, h2⟩ := h.uncons
    rw [e]
    exact Reps.cons h1 (Reps.setR r h2)
variable {o : Expr} {to : TE} {so : Se} {c f : Str}
/-- self.f = e, a new field -/
def sNewF (c f : Str) (o a : Se) : Ss := fun ρ ws => (a ρ ws).bind fun y ws1 => (o ρ ws1).bind fun x ws2 => match x with
  | .cell n => (match ws2[n]? with
    | some (.ins c' ks l) => if c' = c ∧ f ∉ ks ∧ ks.length < 100 then .ok (ρ, .nx) (ws2.set n (.ins c' (ks ++ [f]) (l ++ [y]))) else .bad
    | _ => .bad)
  | _ => .bad
/-- self.f = e, the i-th field once more -/
def sSetF (c f : Str) (i : Nat) (o a : Se) : Ss := fun ρ ws => (a ρ ws).bind fun y ws1 => (o ρ ws1).bind fun x ws2 => match x with
  | .cell n => (match ws2[n]? with
    | some (.ins c' ks l) => if c' = c ∧ okI ks f i = true ∧ ks.length < 100 then .ok (ρ, .nx) (ws2.set n (.ins c' ks (l.set i y))) else .bad
    | _ => .bad)
  | _ => .bad
theorem as_newF {pos' : Pos} (ho : AE K X E o to so) (he : AE K X E e te se) (hc : Cls K (He.ga K c)) (hn : NoAttr K (He.ga K c) f) (hs : swapsWith e (some (.Attribute o f pos')) pos.line X.env = pure false := by rfl) :
    AS K X E (.Assign [.Attribute o f pos'] e pos) (L2.sFld K to te f) (sNewF c f so se) := by
  have e0 := ho.hK
  subst e0
  refine ⟨rfl, ps_fld ho.pe he.pe hs, fun ρ ws G H as σ D W S P => he.ev ρ ws G H as σ _ W S (PostS.bind P fun y ws1 v G1 H1 as1 r1 W1 ry P1 => ?_)⟩
  refine ho.ev ρ ws1 G1 H1 as1 σ _ W1 (S.up r1.pre r1.up) (PostS.bind P1 fun x ws2 u G2 H2 as2 r2 W2 rx P2 => ?_)
  have S2 := (S.up r1.pre r1.up).up r2.pre r2.up
  have ry2 := ry.up r2.pre r2.up
  cases x with
  | cell n =>
    dsimp only at P2
    cases q : ws2[n]? with
    | none => rw [q] at P2; exact False.elim P2
    | some ce =>
      rw [q] at P2
      cases ce with
      | ins c' ks l =>
        simp only at P2
        split at P2
        · rename_i h
          obtain ⟨h1, h2, h3⟩ := h
          subst h1
          obtain ⟨a, ob, e1, e2, e3, dx, vs, e4, e5, e6⟩ := W2.cellAt q (fun z => by cases z) rx
          subst e4
          have hl : ks.length = vs.length := by rw [e5, e6.len]
          refine ⟨a, _, dx, _, e1, e3, hc, hn, ?_, ?_⟩
          · rw [List.length_zip]
            omega
          · refine P2 G2 _ as2 σ (Rch.put (List.mem_of_getElem? e2)) (W2.put e2 q (fun z => by cases z) ⟨dx, vs ++ [v], by rw [putF_new h2 hl], ?_, e6.app (Reps.one ry2)⟩) S2
            rw [List.length_append, List.length_append, e5] <;> rfl
        · exact False.elim P2
      | _ => exact False.elim P2
  | _ => exact False.elim P2
theorem as_setF (i : Nat) {pos' : Pos} (ho : AE K X E o to so) (he : AE K X E e te se) (hc : Cls K (He.ga K c)) (hn : NoAttr K (He.ga K c) f) (hs : swapsWith e (some (.Attribute o f pos')) pos.line X.env = pure false := by rfl) :
    AS K X E (.Assign [.Attribute o f pos'] e pos) (L2.sFld K to te f) (sSetF c f i so se) := by
  have e0 := ho.hK
  subst e0
  refine ⟨rfl, ps_fld ho.pe he.pe hs, fun ρ ws G H as σ D W S P => he.ev ρ ws G H as σ _ W S (PostS.bind P fun y ws1 v G1 H1 as1 r1 W1 ry P1 => ?_)⟩
  refine ho.ev ρ ws1 G1 H1 as1 σ _ W1 (S.up r1.pre r1.up) (PostS.bind P1 fun x ws2 u G2 H2 as2 r2 W2 rx P2 => ?_)
  have S2 := (S.up r1.pre r1.up).up r2.pre r2.up
  have ry2 := ry.up r2.pre r2.up
  cases x with
  | cell n =>
    dsimp only at P2
    cases q : ws2[n]? with
    | none => rw [q] at P2; exact False.elim P2
    | some ce =>
      rw [q] at P2
      cases ce with
      | ins c' ks l =>
        simp only at P2
        split at P2
        · rename_i h
          obtain ⟨h1, h2, h3⟩ := h
          subst h1
          obtain ⟨a, ob, e1, e2, e3, dx, vs, e4, e5, e6⟩ := W2.cellAt q (fun z => by cases z) rx
          subst e4
          have hl : ks.length = vs.length := by rw [e5, e6.len]
          refine ⟨a, _, dx, _, e1, e3, hc, hn, ?_, ?_⟩
          · rw [List.length_zip]
            omega
          · exact P2 G2 _ as2 σ (Rch.put (List.mem_of_getElem? e2)) (W2.put e2 q (fun z => by cases z) ⟨dx, vs.set i v, by rw [putF_old h2 hl], by rw [List.length_set, e5], e6.setR ry2⟩) S2
        · exact False.elim P2
      | _ => exact False.elim P2
  | _ => exact False.elim P2
end
/-! ### loops -/
/-- the list that is walked is still so -/
def SrcOk (src : Option Nat) (ds : List D) (ws : List Ce) : Prop := match src with
  | none => True
  | some n => ws[n]? = some (.lst ds)
/-- what is walked: J yields what ds tell, while the store says so -/
structure Wk (K : PySem.W.Frag) (as : List Addr) (G : Hp) (ds : List D) (src : Option Nat) (J : It) : Prop where
  go : ∀ i H as2 G2 ws2, as <+: as2 → Same G G2 → Wd K G2 H as2 ws2 → SrcOk src ds ws2 → i < ds.length → J.go i H
  stop : ∀ H as2 G2 ws2, as <+: as2 → Same G G2 → Wd K G2 H as2 ws2 → SrcOk src ds ws2 → J.stop ds.length H
  yld : ∀ i H x H' as2 G2 ws2, as <+: as2 → Same G G2 → Wd K G2 H as2 ws2 → SrcOk src ds ws2 → i < ds.length → J.yld i H x H' → ∃ d G3, ds[i]? = some d ∧ Rch G2 H as2 G3 H' as2 ∧ Wd K G3 H' as2 ws2 ∧ Rep K as2 G3 d x
abbrev Si := List (Option D) → List Ce → R (List D × Option Nat)
def relI (K : PySem.W.Frag) : List Addr → Hp → List D × Option Nat → It → Prop := fun as G a J => Wk K as G a.1 a.2 J
def EvI (K : PySem.W.Frag) (E : XK) (wi : TI) (f : Si) : Prop := ∀ ρ ws G H as σ Q, Wd K G H as ws → SRep K as G ρ σ → Post K E (relI K) G H as (f ρ ws) Q → wi σ H Q
structure AI (K : PySem.W.Frag) (X : Cx) (E : XK) (tg iter : Expr) (wi : TI) (f : Si) : Prop where
  hK : X.K = K
  pe : PI X tg iter wi
  ev : EvI K E wi f
instance {src : Option Nat} {ds : List D} {ws : List Ce} : Decidable (SrcOk src ds ws) := match src with
  | none => .isTrue trivial
  | some n => inferInstanceAs (Decidable (ws[n]? = some (.lst ds)))
def loopFor (ds : List D) (src : Option Nat) (t : Tg) (body : Ss) : List D → List (Option D) → List Ce → R (List (Option D) × Fl)
  | [], ρ, ws => if SrcOk src ds ws then .ok (ρ, .nx) ws else .bad
  | d :: rest, ρ, ws => if SrcOk src ds ws then (t d ρ ws).bind fun ρ1 ws1 => (body ρ1 ws1).bind fun r ws2 => match r with
      | (ρ2, .nx) => loopFor ds src t body rest ρ2 ws2
      | (ρ2, .ct) => loopFor ds src t body rest ρ2 ws2
      | (ρ2, .bk) => .ok (ρ2, .nx) ws2
      | (ρ2, .rt v) => .ok (ρ2, .rt v) ws2
    else .bad
def sFor (it : Si) (t : Tg) (body : Ss) : Ss := fun ρ ws => (it ρ ws).bind fun r ws1 => loopFor r.1 r.2 t body r.1 ρ ws1
section
variable {K : PySem.W.Frag} {X : Cx} {E : XK} {tg iter : Expr} {body : List Stmt} {wi : TI} {g : TG} {tb : TS} {f : Si} {sl : List Nat} {t : Tg} {s : Ss} {pos : Pos}
theorem evFor (hi : EvI K E wi f) (hg : EvG K E g sl t) (hb : EvS K E tb s) : EvS K E (tFor wi g tb) (sFor f t s) := fun ρ ws G H as σ D W S P => by
  refine hi ρ ws G H as σ _ W S (PostS.bind P fun r ws1 J G1 H1 as1 r1 W1 wk P1 => ?_)
  obtain ⟨ds, src⟩ := r
  have wk : Wk K as1 G1 ds src J := wk
  refine ⟨fun i m σ' H' => m = ds.length - i ∧ i ≤ ds.length ∧ ∃ ρ' ws' G' as', Rch G1 H1 as1 G' H' as' ∧ Wd K G' H' as' ws' ∧ SRep K as' G' ρ' σ' ∧ PostS K E G' H' as' (loopFor ds src t s (ds.drop i) ρ' ws') D,
    ⟨_, rfl, Nat.zero_le _, ρ, ws1, G1, as1, Rch.refl, W1, S.up r1.pre r1.up, P1⟩, ?_⟩
  rintro i m σ' H' ⟨rfl, hle, ρ', ws', G', as', rch, W', S', P'⟩
  by_cases hlt : i < ds.length
  · refine .inr ?_
    have hd : ds.drop i = ds[i] :: ds.drop (i + 1) := List.drop_eq_getElem_cons hlt
    rw [hd] at P'
    unfold loopFor at P'
    split at P'
    · rename_i hs
      refine ⟨wk.go i H' as' G' ws' rch.pre rch.up W' hs hlt, fun σ2 H2 => ∃ ρ2 ws2 G2 as2, Rch G1 H1 as1 G2 H2 as2 ∧ Wd K G2 H2 as2 ws2 ∧ SRep K as2 G2 ρ2 σ2 ∧ PostS K E G2 H2 as2 (loopFor ds src t s (ds.drop (i + 1)) ρ2 ws2) D, fun σ2 H2 h => ⟨ds.length - (i + 1), by omega, rfl, hlt, h⟩, fun x H2 hy => ?_⟩
      obtain ⟨d, G3, hd', r3, W3, rx⟩ := wk.yld i H' x H2 as' G' ws' rch.pre rch.up W' hs hlt hy
      rw [List.getElem?_eq_getElem hlt] at hd'
      cases hd'
      refine hg _ x ρ' ws' G3 H2 as' σ' _ W3 (S'.up r3.pre r3.up) rx (PostS.bind (PostS.from P' r3) fun ρ1 ws4 σ4 G4 H4 as4 r4 W4 S4 P4 => ?_)
      refine hb ρ1 ws4 G4 H4 as4 σ4 _ W4 S4.1 ?_
      have r04 := (rch.trans r3).trans r4
      cases e : s ρ1 ws4 with
      | ok a ws5 =>
        rw [e] at P4
        obtain ⟨ρ5, fl⟩ := a
        cases fl with
        | nx => exact fun G5 H5 as5 σ5 r5 W5 S5 => ⟨ρ5, ws5, G5, as5, r04.trans r5, W5, S5, PostS.from P4 r5⟩
        | ct => exact fun G5 H5 as5 σ5 r5 W5 S5 => ⟨ρ5, ws5, G5, as5, r04.trans r5, W5, S5, PostS.from P4 r5⟩
        | bk => exact fun G5 H5 as5 σ5 r5 W5 S5 => P4 G5 H5 as5 σ5 r5 W5 S5
        | rt v => exact P4
      | ex x' ws5 =>
        rw [e] at P4
        exact P4
      | bad =>
        rw [e] at P4
        exact False.elim P4
    · exact False.elim P'
  · have e : i = ds.length := by omega
    subst e
    rw [List.drop_length] at P'
    unfold loopFor at P'
    split at P'
    · rename_i hs
      exact .inl ⟨wk.stop H' as' G' ws' rch.pre rch.up W' hs, P' G' H' as' σ' Rch.refl W' S'⟩
    · exact False.elim P'
theorem as_for (hp : PassesOwn (model X.prog X.w) X.A X.env X.xe) (hi : AI K X E tg iter wi f) (hg : AG K X E tg g sl t) (hb : ASs K X E body tb s) (hc : X.calm = true := by rfl)
    (hs : ∀ x, foldedSetIterable iter X.env x = pure x := by intro _; rfl) : AS K X E (.For tg iter body [] pos) (tFor wi g tb) (sFor f t s) := ⟨hi.hK, ps_for hp hc hi.pe hg.pe hb.pe hs, evFor hi.ev hg.ev hb.ev⟩
/-! ### while, at most so many turns -/
def loopW (c : Sb) (body : Ss) : Nat → List (Option D) → List Ce → R (List (Option D) × Fl)
  | 0, _, _ => .bad
  | n + 1, ρ, ws => (c ρ ws).bind fun b ws1 => if b = true then (body ρ ws1).bind fun r ws2 => match r with
      | (ρ2, .nx) => loopW c body n ρ2 ws2
      | (ρ2, .ct) => loopW c body n ρ2 ws2
      | (ρ2, .bk) => .ok (ρ2, .nx) ws2
      | (ρ2, .rt v) => .ok (ρ2, .rt v) ws2
    else .ok (ρ, .nx) ws1
def sWhile (n : Nat) (c : Sb) (body : Ss) : Ss := fun ρ ws => loopW c body n ρ ws
variable {c : Expr} {tc : TT} {ba : Sb}
theorem evWhile {n : Nat} (hc : EvT K E tc ba) (hb : EvS K E tb s) : EvS K E (tWhile tc tb) (sWhile n ba s) := fun ρ ws G H as σ D W S P => by
  refine ⟨fun m σ' H' => ∃ ρ' ws' G' as', Rch G H as G' H' as' ∧ Wd K G' H' as' ws' ∧ SRep K as' G' ρ' σ' ∧ PostS K E G' H' as' (loopW ba s m ρ' ws') D, ⟨n, ρ, ws, G, as, Rch.refl, W, S, P⟩, ?_⟩
  rintro m σ' H' ⟨ρ', ws', G', as', rch, W', S', P'⟩
  cases m with
  | zero => exact False.elim P'
  | succ m =>
    unfold loopW at P'
    refine hc ρ' ws' G' H' as' σ' _ W' S' (PostS.bind P' fun b ws1 b' G1 H1 as1 r1 W1 rb P1 => ?_)
    cases rb
    cases b with
    | true =>
      rw [if_pos rfl] at P1 ⊢
      refine ⟨fun σ2 H2 => ∃ ρ2 ws2 G2 as2, Rch G H as G2 H2 as2 ∧ Wd K G2 H2 as2 ws2 ∧ SRep K as2 G2 ρ2 σ2 ∧ PostS K E G2 H2 as2 (loopW ba s m ρ2 ws2) D, fun σ2 H2 h => ⟨m, Nat.lt_succ_self _, h⟩, ?_⟩
      refine hb ρ' ws1 G1 H1 as1 σ' _ W1 (S'.up r1.pre r1.up) ?_
      cases e : s ρ' ws1 with
      | ok a ws5 =>
        rw [e] at P1
        obtain ⟨ρ5, fl⟩ := a
        cases fl with
        | nx => exact fun G5 H5 as5 σ5 r5 W5 S5 => ⟨ρ5, ws5, G5, as5, (rch.trans r1).trans r5, W5, S5, PostS.from P1 r5⟩
        | ct => exact fun G5 H5 as5 σ5 r5 W5 S5 => ⟨ρ5, ws5, G5, as5, (rch.trans r1).trans r5, W5, S5, PostS.from P1 r5⟩
        | bk => exact fun G5 H5 as5 σ5 r5 W5 S5 => P1 G5 H5 as5 σ5 r5 W5 S5
        | rt v => exact P1
      | ex x' ws5 =>
        rw [e] at P1
        exact P1
      | bad =>
        rw [e] at P1
        exact False.elim P1
    | false =>
      rw [if_neg Bool.false_ne_true] at P1 ⊢
      exact P1 G1 H1 as1 σ' Rch.refl W1 (S'.up r1.pre r1.up)
theorem as_while (n : Nat) (hp : PassesOwn (model X.prog X.w) X.A X.env X.xe) (hc : AT K X E c tc ba) (hb : ASs K X E body tb s) : AS K X E (.While c body [] pos) (tWhile tc tb) (sWhile n ba s) := ⟨hc.hK, ps_while hp hc.pe hb.pe, evWhile hc.ev hb.ev⟩
end
/-! ### comprehensions -/
/-- nothing is raised here -/
def nox {α : Type} (r : R α) : R α := match r with
  | .ex _ _ => .bad
  | r => r
theorem nox_post {α β : Type} {K : PySem.W.Frag} {E E' : XK} {rel : List Addr → Hp → α → β → Prop} {G H : Hp} {as : List Addr} {out : R α} {Q : β → Hp → Prop} (h : Post K E rel G H as (nox out) Q) : Post K E' rel G H as out Q := by
  cases out with
  | ok a ws => exact h
  | ex e ws => exact False.elim h
  | bad => exact h
def loopLc (ds : List D) (src : Option Nat) (t : Tg) (c : Sb) (el : Se) (ρ : List (Option D)) : List D → List D → List Ce → R (List D)
  | [], acc, ws => if SrcOk src ds ws then .ok acc ws else .bad
  | d :: rest, acc, ws => if SrcOk src ds ws then (nox (t d ρ ws)).bind fun ρ1 ws1 => (nox (c ρ1 ws1)).bind fun b ws2 =>
      if b = true then (nox (el ρ1 ws2)).bind fun y ws3 => if acc.length < 100000 then loopLc ds src t c el ρ rest (acc ++ [y]) ws3 else .bad
      else loopLc ds src t c el ρ rest acc ws2
    else .bad
def sLcG (fz : List D → List Ce → R D) (vs : List Nat) (it : Si) (t : Tg) (c : Sb) (el : Se) : Se := fun ρ ws => (it ρ ws).bind fun r ws1 => (loopLc r.1 r.2 t c el (wipeD ρ vs) r.1 [] ws1).bind fz
/-- a new list that is never written any more -/
def fzL : List D → List Ce → R D := fun l ws => .ok (.lst l) ws
/-- a new list that will be written -/
def fzM : List D → List Ce → R D := fun l ws => .ok (.cell ws.length) (ws ++ [.lst l])
def sLc (vs : List Nat) (it : Si) (t : Tg) (c : Sb) (el : Se) : Se := sLcG fzL vs it t c el
def sLcM (vs : List Nat) (it : Si) (t : Tg) (c : Sb) (el : Se) : Se := sLcG fzM vs it t c el
def sYes : Sb := fun _ ws => .ok true ws
/-- an object apart is written -/
theorem Wd.side {K : PySem.W.Frag} {G H : Hp} {as : List Addr} {ws : List Ce} {p : Addr} {o : HO} (W : Wd K G H as ws) (hg : G p = none) (hp : p ∉ as) (hq : NoTab H p) (ho : ∀ ps, o ≠ .tbl ps := by intro _ z; cases z) : Wd K G (upd H p o) as ws where
  le := fun b u e => by
    rw [upd_ne (fun z => by rw [z, hg] at e; cases e)]
    exact W.le _ _ e
  len := W.len
  nd := W.nd
  out := fun a ha => ⟨(W.out a ha).1, (W.out a ha).2.upd ho⟩
  at_ := fun i c a e e' => by
    rcases W.at_ i c a e e' with q | ⟨o', q, r⟩
    · exact .inl q
    · refine .inr ⟨o', ?_, r⟩
      rw [upd_ne (fun z => hp (by rw [← z]; exact List.mem_of_getElem? e'))]
      exact q
  tb := tabs_upd W.tb hq
  ng := W.ng
theorem Rch.side {G H G1 H1 : Hp} {as as1 : List Addr} {p : Addr} {o : HO} (r : Rch G H as G1 H1 as1) (h : H p = none) (ho : ∀ ps, o ≠ .tbl ps := by intro _ z; cases z) : Rch G H as G1 (upd H1 p o) as1 where
  up := r.up
  pre := r.pre
  fr := fun b u hb e k => by
    rw [upd_ne (ne_of_none e h)]
    exact r.fr b u hb e k
  nw := r.nw
  fs := r.fs
  th := fun b hb => (r.th b hb).upd ho
/-- an object apart is never written any more -/
theorem Wd.freeze {K : PySem.W.Frag} {G H : Hp} {as : List Addr} {ws : List Ce} {p : Addr} {o : HO} (W : Wd K G H as ws) (hp : p ∉ as) (e : H p = some o) (hg : G p = none) (ho : ∀ ps, o ≠ .tbl ps := by intro _ z; cases z) : Wd K (upd G p o) H as ws where
  le := fun b u q => by
    by_cases hb : b = p
    · rw [hb, upd_same] at q
      rw [hb, e]
      exact q
    · rw [upd_ne hb] at q
      exact W.le _ _ q
  len := W.len
  nd := W.nd
  out := fun a ha => by
    have q := W.out a ha
    rw [upd_ne (fun z => hp (by rw [← z]; exact ha))]
    exact q
  at_ := fun i c a e1 e2 => by
    rcases W.at_ i c a e1 e2 with q | ⟨o', q, r⟩
    · exact .inl q
    · refine .inr ⟨o', q, r.up (List.prefix_refl _) fun b u z => ?_⟩
      rw [upd_ne (fun y => by rw [y, hg] at z; cases z)]
      exact z
  tb := W.tb
  ng := fun b ps z => by
    by_cases hb : b = p
    · rw [hb, upd_same] at z
      exact ho ps (Option.some.inj z)
    · rw [upd_ne hb] at z
      exact W.ng _ _ z
theorem Rch.freeze {G H G1 H1 : Hp} {as as1 : List Addr} {p : Addr} {o : HO} (r : Rch G H as G1 H1 as1) (h : H p = none) (hg : G1 p = none) : Rch G H as (upd G1 p o) H1 as1 where
  up := fun b u e => by
    have q := r.up b u e
    rw [upd_ne (fun z => by rw [z, hg] at q; cases q)]
    exact q
  pre := r.pre
  fr := r.fr
  nw := fun b hb e => by
    rw [upd_ne (fun z => hb.ne (by rw [z]; exact h))]
    exact r.nw b hb e
  fs := r.fs
  th := r.th
/-- an object apart becomes a mutable object of the store -/
theorem Wd.adopt {K : PySem.W.Frag} {G H : Hp} {as : List Addr} {ws : List Ce} {p : Addr} {o : HO} {c : Ce} (W : Wd K G H as ws) (hg : G p = none) (hp : p ∉ as) (hq : NoTab H p) (r : RepC K (as ++ [p]) G c o) (ho : ∀ ps, o ≠ .tbl ps := by intro _ z; cases z) : Wd K G (upd H p o) (as ++ [p]) (ws ++ [c]) where
  le := (W.side hg hp hq ho).le
  len := by rw [List.length_append, List.length_append, W.len] <;> rfl
  nd := by
    refine List.nodup_append.mpr ⟨W.nd, by simp, fun a ha b hb => ?_⟩
    rw [List.mem_singleton.mp hb]
    exact fun z => hp (by rw [← z]; exact ha)
  out := fun a ha => by
    rcases List.mem_append.mp ha with q | q
    · exact (W.side hg hp hq ho).out a q
    · rw [List.mem_singleton.mp q]
      exact ⟨hg, o, upd_same, ho⟩
  at_ := fun i c' a e e' => by
    by_cases hi : i < ws.length
    · rw [List.getElem?_append_left hi] at e
      rw [List.getElem?_append_left (by rw [W.len]; exact hi)] at e'
      rcases (W.side (o := o) hg hp hq ho).at_ i c' a e e' with q | ⟨o', q, r'⟩
      · exact .inl q
      · exact .inr ⟨o', q, r'.up (prefix_snoc _ _) (Same.refl _)⟩
    · have hi' : i = ws.length := by
        have := (List.getElem?_eq_some_iff.mp e).1
        rw [List.length_append, List.length_singleton] at this
        omega
      subst hi'
      rw [List.getElem?_append_right (Nat.le_refl _)] at e
      rw [List.getElem?_append_right (by rw [W.len] <;> exact Nat.le_refl _)] at e'
      simp [W.len] at e e'
      subst e e'
      exact .inr ⟨o, upd_same, r⟩
  tb := (W.side hg hp hq ho).tb
  ng := W.ng
theorem Rch.adopt {G H G1 H1 : Hp} {as as1 : List Addr} {p : Addr} {o : HO} (r : Rch G H as G1 H1 as1) (h : H p = none) (ho : ∀ ps, o ≠ .tbl ps := by intro _ z; cases z) : Rch G H as G1 (upd H1 p o) (as1 ++ [p]) where
  up := r.up
  pre := r.pre.trans (prefix_snoc _ _)
  fr := (r.side h ho).fr
  nw := r.nw
  fs := fun a ha => by
    rcases List.mem_append.mp ha with q | q
    · exact r.fs a q
    · rw [List.mem_singleton.mp q]
      exact .inr (not_hn h)
  th := (r.side h ho).th
theorem Post.bind0 {K : PySem.W.Frag} {E : XK} {α β α' β' : Type} {rel : List Addr → Hp → α → β → Prop} {rel' : List Addr → Hp → α' → β' → Prop} {G0 H0 G H : Hp} {as0 as : List Addr} {out : R α} {f : α → List Ce → R α'} {Q' : β' → Hp → Prop} (h : Post K E rel' G0 H0 as0 (out.bind f) Q')
    (r : Rch G0 H0 as0 G H as) {Q : β → Hp → Prop} (k : ∀ a ws1 b G1 H1 as1, Rch G H as G1 H1 as1 → Wd K G1 H1 as1 ws1 → rel as1 G1 a b → Post K E rel' G0 H0 as0 (f a ws1) Q' → Q b H1) : Post K E rel G H as out Q := by
  cases out with
  | ok a ws' => exact fun b G1 H1 as1 r w q => k a ws' b G1 H1 as1 r w q h
  | ex e ws' => exact Post.from (rel := rel) (α := α) (β := β) (out := .ex e ws') (Q := Q) h r
  | bad => exact h
section
variable {K : PySem.W.Frag} {X : Cx} {E : XK} {tg iter elt : Expr} {ifs : List Expr} {wi : TI} {g : TG} {tt : TT} {te : TE} {f : Si} {sl vs : List Nat} {t : Tg} {c : Sb} {el : Se} {pos : Pos}
/-- what is wanted of the new list at p -/
def PostL (K : PySem.W.Frag) (E : XK) (p : Addr) (G H : Hp) (as : List Addr) (out : R (List D)) (Q : VK) : Prop := match out with
  | .ok l ws' => ∀ av G' H' as', Rch G H as G' H' as' → Wd K G' H' as' ws' → G' p = none → p ∉ as' → H' p = some (.lst av) → Reps K as' G' l av → Q (.ref p) H'
  | .ex e ws' => PostX K E G H as e ws'
  | .bad => False
theorem PostL.bind0 {α β : Type} {rel : List Addr → Hp → α → β → Prop} {p : Addr} {G0 H0 G H : Hp} {as0 as : List Addr} {out : R α} {f : α → List Ce → R (List D)} {Q' : VK} (h : PostL K E p G0 H0 as0 (out.bind f) Q')
    (r : Rch G0 H0 as0 G H as) {Q : β → Hp → Prop} (k : ∀ a ws1 b G1 H1 as1, Rch G H as G1 H1 as1 → Wd K G1 H1 as1 ws1 → rel as1 G1 a b → PostL K E p G0 H0 as0 (f a ws1) Q' → Q b H1) : Post K E rel G H as out Q := by
  cases out with
  | ok a ws' => exact fun b G1 H1 as1 r w q => k a ws' b G1 H1 as1 r w q h
  | ex e ws' => exact Post.from (rel := rel) (α := α) (β := β) (out := .ex e ws') (Q := Q) h r
  | bad => exact h
theorem evLcG {fz : List D → List Ce → R D} (hfz : ∀ G1 H1 as1 l ws2 Q p, H1 p = none → Post K E (Rep K) G1 H1 as1 (fz l ws2) Q → PostL K E p G1 H1 as1 (.ok l ws2) Q) (hi : EvI K E wi f) (hg : EvG K E0 g sl t) (hsl : ∀ i ∈ sl, i ∈ vs) (hc : EvT K E0 tt c) (he : EvE K E0 te el) : EvE K E (tLc wi g tt te vs) (sLcG fz vs f t c el) := fun ρ ws G H as σ Q W S P => by
  refine hi ρ ws G H as σ _ W S (Post.bind P fun r ws1 J G1 H1 as1 r1 W1 wk P1 => ?_)
  obtain ⟨ds, src⟩ := r
  have wk : Wk K as1 G1 ds src J := wk
  have S1 := S.up r1.pre r1.up
  intro p hp
  have P1 : PostL K E p G1 H1 as1 (loopLc ds src t c el (wipeD ρ vs) ds [] ws1) Q := by
    have P1 : Post K E (Rep K) G1 H1 as1 ((loopLc ds src t c el (wipeD ρ vs) ds [] ws1).bind fz) Q := P1
    cases q : loopLc ds src t c el (wipeD ρ vs) ds [] ws1 with
    | ok l ws2 =>
      rw [q] at P1
      exact hfz G1 H1 as1 l ws2 Q p hp P1
    | ex e ws2 =>
      rw [q] at P1
      exact P1
    | bad =>
      rw [q] at P1
      exact P1
  have hG1 : G1 p = none := by
    cases q : G1 p with
    | none => rfl
    | some o => rw [W1.le _ _ q] at hp; cases hp
  have hA1 : p ∉ as1 := fun z => (W1.out p z).2.ne hp
  refine ⟨fun i m H' => m = ds.length - i ∧ i ≤ ds.length ∧ ∃ acc av ws' G' as', Rch G1 H1 as1 G' H' as' ∧ Wd K G' H' as' ws' ∧ G' p = none ∧ p ∉ as' ∧ H' p = some (.lst av) ∧ Reps K as' G' acc av ∧
      PostL K E p G1 H1 as1 (loopLc ds src t c el (wipeD ρ vs) (ds.drop i) acc ws') Q,
    ⟨_, rfl, Nat.zero_le _, [], [], ws1, G1, as1, Rch.refl.side hp, W1.side hG1 hA1 (.none hp), hG1, hA1, upd_same, Reps.nil, P1⟩, ?_⟩
  rintro i m H' ⟨rfl, hle, acc, av, ws', G', as', rch, W', gp, ap, hap, racc, P'⟩
  have S' := (S1.up rch.pre rch.up).wipe (vs := vs)
  by_cases hlt : i < ds.length
  · refine .inr ?_
    have hd : ds.drop i = ds[i] :: ds.drop (i + 1) := List.drop_eq_getElem_cons hlt
    rw [hd] at P'
    unfold loopLc at P'
    split at P'
    · rename_i hs
      refine ⟨wk.go i H' as' G' ws' rch.pre rch.up W' hs hlt, fun H2 => ∃ acc av ws2 G2 as2, Rch G1 H1 as1 G2 H2 as2 ∧ Wd K G2 H2 as2 ws2 ∧ G2 p = none ∧ p ∉ as2 ∧ H2 p = some (.lst av) ∧ Reps K as2 G2 acc av ∧
          PostL K E p G1 H1 as1 (loopLc ds src t c el (wipeD ρ vs) (ds.drop (i + 1)) acc ws2) Q, fun H2 h => ⟨ds.length - (i + 1), by omega, rfl, hlt, h⟩, fun x H2 hy => ?_⟩
      obtain ⟨d, G3, hd', r3, W3, rx⟩ := wk.yld i H' x H2 as' G' ws' rch.pre rch.up W' hs hlt hy
      rw [List.getElem?_eq_getElem hlt] at hd'
      cases hd'
      have keep : ∀ {G5 H5 : Hp} {as5 : List Addr}, Rch G' H' as' G5 H5 as5 → G5 p = none ∧ p ∉ as5 ∧ H5 p = some (.lst av) := by
        intro G5 H5 as5 r5
        refine ⟨r5.nw p (.of hap) gp, fun z => ?_, r5.fr p _ ap hap (by intro _ z; cases z)⟩
        rcases r5.fs p z with q | q
        · exact ap q
        · exact q (.of hap)
      refine hg _ x (wipeD ρ vs) ws' G3 H2 as' (wipe σ vs) _ W3 (S'.up r3.pre r3.up) rx (nox_post (E := E) (PostL.bind0 P' (rch.trans r3) fun ρ1 ws4 σ4 G4 H4 as4 r4 W4 S4 P4 => ?_))
      refine ⟨by rw [wipe_chg S4.2 hsl, wipe_wipe], ?_⟩
      refine hc ρ1 ws4 G4 H4 as4 σ4 _ W4 S4.1 (nox_post (E := E) (PostL.bind0 P4 ((rch.trans r3).trans r4) fun b ws5 b' G5 H5 as5 r5 W5 rb P5 => ?_))
      cases rb
      cases b with
      | true =>
        rw [if_pos rfl] at P5 ⊢
        refine he ρ1 ws5 G5 H5 as5 σ4 _ W5 (S4.1.up r5.pre r5.up) (nox_post (E := E) (PostL.bind0 P5 (((rch.trans r3).trans r4).trans r5) fun y ws6 yv G6 H6 as6 r6 W6 ry P6 => ?_))
        have r06 := ((r3.trans r4).trans r5).trans r6
        obtain ⟨k1, k2, k3⟩ := keep r06
        split at P6
        · rename_i hl
          exact ⟨av, k3, small5' (by rw [← racc.len]; exact hl), acc ++ [y], av ++ [yv], ws6, G6, as6, (rch.trans r06).side hp, W6.side k1 k2 (.of k3), k1, k2, upd_same, (racc.up r06.pre r06.up).app (Reps.one ry), P6⟩
        · exact False.elim P6
      | false =>
        rw [if_neg Bool.false_ne_true] at P5 ⊢
        have r05 := (r3.trans r4).trans r5
        obtain ⟨k1, k2, k3⟩ := keep r05
        exact ⟨acc, av, ws5, G5, as5, rch.trans r05, W5, k1, k2, k3, racc.up r05.pre r05.up, P5⟩
    · exact False.elim P'
  · have e : i = ds.length := by omega
    subst e
    rw [List.drop_length] at P'
    unfold loopLc at P'
    split at P'
    · rename_i hs
      exact .inl ⟨wk.stop H' as' G' ws' rch.pre rch.up W' hs, P' av G' H' as' rch W' gp ap hap racc⟩
    · exact False.elim P'
theorem evLc (hi : EvI K E wi f) (hg : EvG K E0 g sl t) (hsl : ∀ i ∈ sl, i ∈ vs) (hc : EvT K E0 tt c) (he : EvE K E0 te el) : EvE K E (tLc wi g tt te vs) (sLc vs f t c el) := evLcG (fun G1 H1 as1 l ws2 Q p hp P => fun av G' H' as' rch W' gp ap hap racc => by
  refine P _ _ _ as' (rch.freeze hp gp) (W'.freeze ap hap gp) ?_
  simp only [Rep]
  refine ⟨p, av, rfl, upd_same, racc.up (List.prefix_refl _) fun b u z => ?_⟩
  rw [upd_ne (fun y => by rw [y, gp] at z; cases z)]
  exact z) hi hg hsl hc he
theorem upd_self {H : Hp} {p : Addr} {o : HO} (h : H p = some o) : upd H p o = H := by
  funext b
  by_cases hb : b = p
  · rw [hb, upd_same, h]
  · rw [upd_ne hb]
theorem evLcM (hi : EvI K E wi f) (hg : EvG K E0 g sl t) (hsl : ∀ i ∈ sl, i ∈ vs) (hc : EvT K E0 tt c) (he : EvE K E0 te el) : EvE K E (tLc wi g tt te vs) (sLcM vs f t c el) := evLcG (fun G1 H1 as1 l ws2 Q p hp P => fun av G' H' as' rch W' gp ap hap racc => by
  have h1 := rch.adopt (o := .lst av) hp
  have h2 := W'.adopt (c := .lst l) (o := .lst av) gp ap (.of hap) ⟨av, rfl, racc.up (prefix_snoc _ _) (Same.refl _)⟩
  rw [upd_self hap] at h1 h2
  refine P _ _ _ _ h1 h2 ?_
  simp only [Rep]
  exact ⟨p, by rw [← W'.len]; simp, rfl⟩) hi hg hsl hc he
structure ATs (K : PySem.W.Frag) (X : Cx) (E : XK) (ifs : List Expr) (tt : TT) (f : Sb) : Prop where
  hK : X.K = K
  pe : PTs X ifs tt
  ev : EvT K E tt f
theorem ats_nil (hK : X.K = K := by rfl) : ATs K X E [] tYes sYes := ⟨hK, pts_nil, fun ρ ws G H as σ Q W S P => Post.done P W rfl⟩
theorem ats_one {e : Expr} (h : AT K X E e tt c) : ATs K X E [e] tt c := ⟨h.hK, pts_one h.pe, h.ev⟩
theorem ae_lc {scope : Scope} {own : List (Str × Nat)} (hN : X.N.Nodup) (hi : AI K X E tg iter wi f) (ok : blkC X.N X.env.scope scope own = true)
    (hg : ∀ (s : Shared) (H : Hp) (C : Addr) (cl : List (Str × Addr)) (fp : List Addr), AG K (X.blk s H scope (compEnvC scope cl C X.env) fp) E0 tg g sl t)
    (ht : ∀ (s : Shared) (H : Hp) (C : Addr) (cl : List (Str × Addr)) (fp : List Addr), ATs K (X.blk s H scope (compEnvC scope cl C X.env) fp) E0 ifs tt c)
    (he : ∀ (s : Shared) (H : Hp) (C : Addr) (cl : List (Str × Addr)) (fp : List Addr), AE K (X.blk s H scope (compEnvC scope cl C X.env) fp) E0 elt te el)
    (hsl : ∀ i ∈ sl, i ∈ own.map (·.2) := by decide) (hc : X.calm = true := by rfl) (hs : ∀ x, foldedSetIterable iter X.env x = pure x := by intro _; rfl) :
    AE K X E (.ListComp elt [⟨tg, iter, ifs, 0⟩] scope pos) (tLc wi g tt te (own.map (·.2))) (sLc (own.map (·.2)) f t c el) := by
  have e0 := hi.hK
  subst e0
  exact ⟨rfl, pe_lc hc hN hi.pe (blkOk_by ok) (fun s H C cl fp => (hg s H C cl fp).pe) (fun s H C cl fp => (ht s H C cl fp).pe) (fun s H C cl fp => (he s H C cl fp).pe) hs,
    evLc hi.ev (hg X.s_0 X.H_0 0 [] []).ev hsl (ht X.s_0 X.H_0 0 [] []).ev (he X.s_0 X.H_0 0 [] []).ev⟩
theorem ae_lcM {scope : Scope} {own : List (Str × Nat)} (hN : X.N.Nodup) (hi : AI K X E tg iter wi f) (ok : blkC X.N X.env.scope scope own = true)
    (hg : ∀ (s : Shared) (H : Hp) (C : Addr) (cl : List (Str × Addr)) (fp : List Addr), AG K (X.blk s H scope (compEnvC scope cl C X.env) fp) E0 tg g sl t)
    (ht : ∀ (s : Shared) (H : Hp) (C : Addr) (cl : List (Str × Addr)) (fp : List Addr), ATs K (X.blk s H scope (compEnvC scope cl C X.env) fp) E0 ifs tt c)
    (he : ∀ (s : Shared) (H : Hp) (C : Addr) (cl : List (Str × Addr)) (fp : List Addr), AE K (X.blk s H scope (compEnvC scope cl C X.env) fp) E0 elt te el)
    (hsl : ∀ i ∈ sl, i ∈ own.map (·.2) := by decide) (hc : X.calm = true := by rfl) (hs : ∀ x, foldedSetIterable iter X.env x = pure x := by intro _; rfl) :
    AE K X E (.ListComp elt [⟨tg, iter, ifs, 0⟩] scope pos) (tLc wi g tt te (own.map (·.2))) (sLcM (own.map (·.2)) f t c el) := by
  have e0 := hi.hK
  subst e0
  exact ⟨rfl, pe_lc hc hN hi.pe (blkOk_by ok) (fun s H C cl fp => (hg s H C cl fp).pe) (fun s H C cl fp => (ht s H C cl fp).pe) (fun s H C cl fp => (he s H C cl fp).pe) hs,
    evLcM hi.ev (hg X.s_0 X.H_0 0 [] []).ev hsl (ht X.s_0 X.H_0 0 [] []).ev (he X.s_0 X.H_0 0 [] []).ev⟩
theorem as_setLc (i : Nat) {y : Str} {py spos : Pos} {scope : Scope} {own : List (Str × Nat)} (hN : X.N.Nodup) (hi : AI K X E tg iter wi f) (ok : blkC X.N X.env.scope scope own = true)
    (hg : ∀ (s : Shared) (H : Hp) (C : Addr) (cl : List (Str × Addr)) (fp : List Addr), AG K (X.blk s H scope (compEnvC scope cl C X.env) fp) E0 tg g sl t)
    (ht : ∀ (s : Shared) (H : Hp) (C : Addr) (cl : List (Str × Addr)) (fp : List Addr), ATs K (X.blk s H scope (compEnvC scope cl C X.env) fp) E0 ifs tt c)
    (he : ∀ (s : Shared) (H : Hp) (C : Addr) (cl : List (Str × Addr)) (fp : List Addr), AE K (X.blk s H scope (compEnvC scope cl C X.env) fp) E0 elt te el)
    (hsw : swapsWith (.ListComp elt [⟨tg, iter, ifs, 0⟩] scope pos) (some (.Name y py)) spos.line X.env = pure true)
    (hsl : ∀ i ∈ sl, i ∈ own.map (·.2) := by decide) (hc : X.calm = true := by rfl) (hy : X.N[i]? = some y := by rfl) (hyl : X.env.scope.names.lookup y = some .local := by rfl) (hs : ∀ x, foldedSetIterable iter X.env x = pure x := by intro _; rfl) :
    AS K X E (.Assign [.Name y py] (.ListComp elt [⟨tg, iter, ifs, 0⟩] scope pos) spos) (tAsg (tLc wi g tt te (own.map (·.2))) (gName i)) (sSet i (sLc (own.map (·.2)) f t c el)) := by
  have e0 := hi.hK
  subst e0
  exact ⟨rfl, ps_setLc hc hN hy hyl hsw hi.pe (blkOk_by ok) (fun s H C cl fp => (hg s H C cl fp).pe) (fun s H C cl fp => (ht s H C cl fp).pe) (fun s H C cl fp => (he s H C cl fp).pe) hs,
    evSet (evLc hi.ev (hg X.s_0 X.H_0 0 [] []).ev hsl (ht X.s_0 X.H_0 0 [] []).ev (he X.s_0 X.H_0 0 [] []).ev)⟩
theorem as_setLcM (i : Nat) {y : Str} {py spos : Pos} {scope : Scope} {own : List (Str × Nat)} (hN : X.N.Nodup) (hi : AI K X E tg iter wi f) (ok : blkC X.N X.env.scope scope own = true)
    (hg : ∀ (s : Shared) (H : Hp) (C : Addr) (cl : List (Str × Addr)) (fp : List Addr), AG K (X.blk s H scope (compEnvC scope cl C X.env) fp) E0 tg g sl t)
    (ht : ∀ (s : Shared) (H : Hp) (C : Addr) (cl : List (Str × Addr)) (fp : List Addr), ATs K (X.blk s H scope (compEnvC scope cl C X.env) fp) E0 ifs tt c)
    (he : ∀ (s : Shared) (H : Hp) (C : Addr) (cl : List (Str × Addr)) (fp : List Addr), AE K (X.blk s H scope (compEnvC scope cl C X.env) fp) E0 elt te el)
    (hsw : swapsWith (.ListComp elt [⟨tg, iter, ifs, 0⟩] scope pos) (some (.Name y py)) spos.line X.env = pure true)
    (hsl : ∀ i ∈ sl, i ∈ own.map (·.2) := by decide) (hc : X.calm = true := by rfl) (hy : X.N[i]? = some y := by rfl) (hyl : X.env.scope.names.lookup y = some .local := by rfl) (hs : ∀ x, foldedSetIterable iter X.env x = pure x := by intro _; rfl) :
    AS K X E (.Assign [.Name y py] (.ListComp elt [⟨tg, iter, ifs, 0⟩] scope pos) spos) (tAsg (tLc wi g tt te (own.map (·.2))) (gName i)) (sSet i (sLcM (own.map (·.2)) f t c el)) := by
  have e0 := hi.hK
  subst e0
  exact ⟨rfl, ps_setLc hc hN hy hyl hsw hi.pe (blkOk_by ok) (fun s H C cl fp => (hg s H C cl fp).pe) (fun s H C cl fp => (ht s H C cl fp).pe) (fun s H C cl fp => (he s H C cl fp).pe) hs,
    evSet (evLcM hi.ev (hg X.s_0 X.H_0 0 [] []).ev hsl (ht X.s_0 X.H_0 0 [] []).ev (he X.s_0 X.H_0 0 [] []).ev)⟩
end
end RL
set_option Elab.async false
set_option linter.all false
set_option maxRecDepth 100000
/-! RL5: what is walked; built-ins by values; methods of lists and texts; slices; isinstance; f-strings. -/
namespace RL
open PySem PySem.Spec PyProof.Rows L2
/-! ### what is walked -/
/-- a walk over values that stand still -/
theorem wk_still {K : PySem.W.Frag} {as : List Addr} {G : Hp} {ds : List D} {vs : List V} {J : It} (rs : Reps K as G ds vs) (go : ∀ i H, i < vs.length → Same G H → J.go i H) (stop : ∀ H, Same G H → J.stop vs.length H)
    (yld : ∀ i H x H', i < vs.length → Same G H → J.yld i H x H' → H' = H ∧ vs[i]? = some x) : Wk K as G ds none J where
  go := fun i H as2 G2 ws2 hp hG W _ hi => go i H (by rw [← rs.len]; exact hi) (hG.trans W.le)
  stop := fun H as2 G2 ws2 hp hG W _ => by rw [rs.len]; exact stop H (hG.trans W.le)
  yld := fun i H x H' as2 G2 ws2 hp hG W _ hi y => by
    obtain ⟨e, hx⟩ := yld i H x H' (by rw [← rs.len]; exact hi) (hG.trans W.le) y
    subst e
    have hd : ds[i]? = some ds[i] := List.getElem?_eq_getElem hi
    obtain ⟨v, h1, h2⟩ := rs.get hd
    rw [hx] at h1
    cases h1
    exact ⟨_, G2, hd, Rch.refl, W, h2.up hp hG⟩
def itOf (ws : List Ce) : D → Option (List D × Option Nat)
  | .lst l => some (l, none)
  | .cell n => (match ws[n]? with
    | some (.lst l) => some (l, some n)
    | _ => none)
  | _ => none
def sItL (a : Se) : Si := fun ρ ws => (a ρ ws).bind fun x ws1 => R.ofO (itOf ws1 x) ws1
def sItT (a : Se) : Si := fun ρ ws => (a ρ ws).bind fun x ws1 => R.ofO ((tupOf x).map fun l => (l, none)) ws1
def intsD (lo : Int) (n : Nat) : List D := (List.range n).map fun i => .int (lo + (i : Nat))
def sItR1 (a : Sa) : Si := fun ρ ws => (a ρ ws).bind fun ds ws1 => match ds with
  | [.int j] => if -1000000 ≤ j ∧ j ≤ 1000000 then .ok (intsD 0 j.toNat, none) ws1 else .bad
  | _ => .bad
def sItR2 (a : Sa) : Si := fun ρ ws => (a ρ ws).bind fun ds ws1 => match ds with
  | [.int i, .int j] => if -1000000 ≤ i ∧ i ≤ 1000000 ∧ -1000000 ≤ j ∧ j ≤ 1000000 then .ok (intsD i (j - i).toNat, none) ws1 else .bad
  | _ => .bad
def enumD (l : List D) : List D := (List.range l.length).map fun i => .tup [.int (i : Nat), l.getD i .non]
def sItE (a : Sa) : Si := fun ρ ws => (a ρ ws).bind fun ds ws1 => match ds with
  | [.lst l] => .ok (enumD l, none) ws1
  | _ => .bad
def sItET (a : Sa) : Si := fun ρ ws => (a ρ ws).bind fun ds ws1 => match ds with
  | [.tup l] => .ok (enumD l, none) ws1
  | _ => .bad
def signsD (s : Str) : List D := s.cps.toList.map fun c => .str ⟨#[c]⟩
def sItS (a : Se) : Si := fun ρ ws => (a ρ ws).bind fun x ws1 => match x with
  | .str s => .ok (signsD s, none) ws1
  | _ => .bad
theorem intsD_len {lo : Int} {n : Nat} : (intsD lo n).length = n := by simp [intsD]
theorem intsD_get {lo : Int} {n i : Nat} (h : i < n) : (intsD lo n)[i]? = some (.int (lo + (i : Nat))) := by simp [intsD, h]
theorem enumD_len {l : List D} : (enumD l).length = l.length := by simp [enumD]
theorem enumD_get {l : List D} {i : Nat} {d : D} (h : l[i]? = some d) : (enumD l)[i]? = some (.tup [.int (i : Nat), d]) := by
  have hi := (List.getElem?_eq_some_iff.mp h).1
  simp [enumD, hi, List.getD, h]
  have := (List.getElem?_eq_some_iff.mp h).2
  exact this
/-- enumerate(t), t a tuple -/
def IteT (K : PySem.W.Frag) (a : Addr) : It where
  go := fun i H => ∃ (xs : List V) (x : V), SqT K H a xs ∧ xs[i]? = some x
  yld := fun i H v H' => ∃ T x, v = .ref T ∧ H T = none ∧ H' = upd H T (.tup [.int (i : Nat), x]) ∧ ∀ xs, SqT K H a xs → xs[i]? = some x
  stop := fun i H => ∃ xs : List V, SqT K H a xs ∧ xs.length = i
theorem meets_enum1 {v : Value} {o : Obj} {S : Heap → Prop} (B : Begins v o S) :
    Meets (Builtin.«enumerate.__new__» ⟨[.type "enumerate", v], []⟩) (fun _ R s => S s.heap ∧
      R (.ok (.ret (.ref (s.heap.push o).objs.size))) { s with heap := (s.heap.push o).push { cls := .type "enumerate", data := .fields #[.none, .bool false, .ref s.heap.objs.size, rawInt 0, .none, .none] } }) := by
  refine .of_wp fun prog w A R s h => ?_
  obtain ⟨hp, g, d, tk, os⟩ := s
  obtain ⟨h1, h⟩ := h
  have hsub := sub_enumerate
  have q1 : ∀ {A' : Around} {E : Value → Shared → Prop} {Q : Value → Shared → Prop}, Q (.ref hp.objs.size) ⟨hp.push o, g, d, tk, os⟩ → wpAny (model prog w) A' (pyIter v) Q E ⟨hp, g, d, tk, os⟩ := by
    intro A' E Q q
    exact B.iter prog w _ _ ⟨hp, g, d, tk, os⟩ _ h1 q
  wp_walk using q1
  refine wpAny_stack_any fun st => wpAny_pure ?_
  split
  · rename_i c _ _ _ _ _
    cases (c == Value.type "enumerate") <;> (wp_walk using q1; exact ⟨_, rfl, h⟩)
  · wp_walk using q1
    exact ⟨_, rfl, h⟩
theorem call_enum1 {prog : Program} {w : World} {A : Around} {E : Value → Shared → Prop} {s : Shared} {v : Value} {o : Obj} {S : Heap → Prop} {Q : Value → Shared → Prop} (B : Begins v o S) (h1 : S s.heap)
    (h : ∀ h', IsEnum h' (s.heap.objs.size + 1) s.heap.objs.size 0 .none → h'.get? s.heap.objs.size = some o → h'.objs.size = s.heap.objs.size + 2 → (∀ b x, s.heap.get? b = some x → h'.get? b = some x) → Q (.ref (s.heap.objs.size + 1)) { s with heap := h' }) :
    wpAny (model prog w) A (call (.type "enumerate") [v]) Q E s := by
  refine callType_new F.called_enumerate (by decide) (F.typeCall_enumerate_1 _) (F.newCall_enumerate_1 _) (fun obj => F.args_object_init_2 obj _) F.entry_enumerate_new (meets_enum1 B) ⟨h1, ?_⟩
  have hz : (s.heap.push o).objs.size = s.heap.objs.size + 1 := Heap.size_push ..
  show _ ∧ _
  rw [hz]
  have he : IsEnum ((s.heap.push o).push { cls := .type "enumerate", data := .fields #[.none, .bool false, .ref s.heap.objs.size, rawInt 0, .none, .none] }) (s.heap.objs.size + 1) s.heap.objs.size 0 .none := by
    have q := Heap.get?_push_size (s.heap.push o) (o := { cls := .type "enumerate", data := .fields #[.none, .bool false, .ref s.heap.objs.size, rawInt 0, .none, .none] }) rfl
    rw [hz] at q
    exact q
  exact ⟨⟨_, he, rfl⟩, h _ he (Heap.get?_push_of_some _ (Heap.get?_push_size _ B.free)) (by rw [Heap.size_push, hz]) fun b o x => Heap.get?_push_of_some _ (Heap.get?_push_of_some _ x)⟩
theorem turn_enumT {P : Program} {w : World} {K : PySem.W.Frag} {elts : List Expr} {kk : Nat} {tpos : Pos} (a e it : Addr) :
    Turn P w K (.Tuple elts kk tpos) (IteT K a) [e, it] e (fun i h => (∃ old, IsEnum h e it ((i : Nat) : Int) old) ∧ h.IsTupleIter it a i ∧ e ≠ it) where
  mem := by simp
  obj := by
    rintro i h ⟨⟨old, he⟩, ⟨o, ho, hc, hd⟩, _⟩ b hb
    rcases (show b = e ∨ b = it by simpa using hb) with z | z
    · rw [z]
      exact ⟨_, he, fun v q => nomatch q⟩
    · rw [z]
      exact ⟨o, ho, fun v q => by rw [hd] at q; cases q⟩
  keep := by
    rintro i h h' ⟨⟨old, he⟩, hi, hne⟩ k
    exact ⟨⟨old, k e (by simp) _ he⟩, hi.at fun o q => k it (by simp) o q, hne⟩
  item := by
    intro X hP hw hK hc i pins s σ H E I hf st hg
    subst hP hw hK
    obtain ⟨⟨old, he⟩, hit, hne⟩ := st
    obtain ⟨xs, x, hq, hx⟩ := hg
    obtain ⟨its, rv, p, hz⟩ := I.tuple hq
    obtain ⟨u, hu, ru⟩ := rv.get hx
    have hel : e < s.heap.objs.size := Heap.lt_size he
    have hil : it < s.heap.objs.size := by
      obtain ⟨_, q, _⟩ := hit
      exact Heap.lt_size q
    have hta : a ≠ it := fun z => by
      obtain ⟨o1, q1, c1, _⟩ := id p
      obtain ⟨o2, q2, c2, _⟩ := id hit
      rw [z, q2] at q1
      cases q1
      rw [c1] at c2
      exact absurd c2 (by decide)
    have hea : e ≠ a := fun z => by
      obtain ⟨o1, q1, c1, _⟩ := id p
      have q2 := id he
      unfold IsEnum at q2
      rw [← z, q2] at q1
      cases q1
      have c3 : Value.type "enumerate" = Value.type "tuple" := c1
      exact absurd c3 (by decide)
    have hix : i < its.toArray.size := by
      have := (List.getElem?_eq_some_iff.mp hu).1
      simpa using this
    refine wpAny_pyNext_enum_itemD (Draws.tuple (A := X.A.in1) (I.ok.hd hc) it a hta its.toArray) he ⟨hit, p⟩ hix hne (by simp [hne, hea]) (fun y h' tk hP ho hst' hT hsz hk => ?_)
    have ey : y = u := by
      have q : its.toArray[i]? = some y := hP
      have q' : its.toArray[i]? = some u := by simpa using hu
      rw [q] at q'
      exact Option.some.inj q'
    subst ey
    refine ⟨_, rfl, wpAny_letOwnedTupleGo_enum (s := { s with heap := h', toks := tk + 1 }) ho fun h'' he' sb => ?_⟩
    have hT2 : h''.get? s.heap.objs.size = some { cls := .type "tuple", data := .seq #[.int i tk, y] } := (sb.2 _ (Nat.ne_of_gt hel)).trans hT
    have new : ObjOk X.prog X.w (upd H s.heap.objs.size (.tup [.int (i : Nat), x])) h'' s.heap.objs.size (.tup [.int (i : Nat), x]) := by
      refine ⟨by show 2 ≤ sizeLine; decide, [.int i tk, y], .cons ⟨_, rfl⟩ (.cons ru .nil), ⟨_, hT2, rfl, _, rfl⟩⟩
    have I1 : Inv X pins σ (upd H s.heap.objs.size (.tup [.int (i : Nat), x])) { s with heap := h'', toks := tk + 1 } := by
      refine I.turnedNew (ch := [e, it]) (fun b ob hb q => ?_) hf (Nat.le_refl _) new
      have n1 : b ≠ e := fun z => hb (by simp [z])
      have n2 : b ≠ it := fun z => hb (by simp [z])
      exact (sb.2 b n1).trans (hk b ob n1 n2 q)
    refine ⟨.ref s.heap.objs.size, _, I1, rfl, ⟨_, x, rfl, I.hok.fresh (Nat.le_refl _), rfl, fun ys hy => ?_⟩, ⟨⟨y, ?_⟩, hst'.1.at fun o q => (sb.2 it (Ne.symm hne)).trans q, hne⟩, fun b hb => ?_⟩
    · rw [I.tuple_inj hy hq]
      exact hx
    · have e1 : ((i + 1 : Nat) : Int) = (i : Int) + 1 := by omega
      rw [e1]
      exact he'
    · have hb' : b < s.heap.objs.size := by
        rcases (show b = e ∨ b = it by simpa using hb) with z | z
        · rw [z]
          exact hel
        · rw [z]
          exact hil
      rw [upd_ne (Nat.ne_of_lt hb')]
      exact (hf b hb).1
  done := by
    intro X hP hw hK hc i pins s σ H E I hf st hg
    subst hP hw hK
    obtain ⟨⟨old, he⟩, hit, hne⟩ := st
    obtain ⟨xs, hq, hx⟩ := hg
    obtain ⟨its, rv, p, hz⟩ := I.tuple hq
    obtain ⟨f0, f1, f2, f3, f4, f5⟩ := hf it (by simp)
    have hta : a ≠ it := fun z => by
      obtain ⟨o1, q1, c1, _⟩ := id p
      obtain ⟨o2, q2, c2, _⟩ := id hit
      rw [z, q2] at q1
      cases q1
      rw [c1] at c2
      exact absurd c2 (by decide)
    have hl : i = its.toArray.size := by
      have := rv.length
      simp
      omega
    subst hl
    exact wpAny_pyNext_enum_endD (Draws.tuple (A := X.A.in1) (I.ok.hd hc) it a hta its.toArray) he ⟨hit, p⟩ fun h' eb => ⟨rfl, I.turned (t' := s.toks) (fun b o hb e => eb b o hb e) f0 f1 f3 f4 f5⟩
  self := fun A i s Q E st h => let ⟨⟨_, he⟩, _⟩ := st; wpAny_pyIter_enum he h
/-- enumerate(t) -/
def iEnumT (K : PySem.W.Frag) (ta : TA) : TI := fun σ H R => ta σ H fun vs H1 => ∃ a xs, vs = [.ref a] ∧ SqT K H1 a xs ∧ R (IteT K a) H1
theorem pi_enumT {X : Cx} {e : Expr} {ta : TA} {p pos tpos : Pos} {elts : List Expr} {kk : Nat} (hg : Gl X "enumerate") (hm : X.mg "enumerate" = none) (ha : PA X [e] ta) (hs : starEach [e] X.env = [(false, eval e X.env)] := by rfl) :
    PI X (.Tuple elts kk tpos) (.Call (.Name "enumerate" p) [e] [] pos) (iEnumT X.K ta) := by
  refine ⟨fun pins s σ H R I h => Call_ (ld_blt I hg hm boot_enumerate (PyProof.Rows.callWith_type1 (thn (ha.run pos pins s σ H _ I h) fun us s1 ⟨vs, H1, I1, r1, q1⟩ => ?_) hs rfl))⟩
  obtain ⟨a, xs, ex, hq, q⟩ := q1
  subst ex
  cases r1 with
  | cons r rr =>
    cases rr
    cases r
    obtain ⟨its, rv, p', hz⟩ := I1.tuple hq
    refine call_enum1 (begins_tuple a its.toArray) p' fun h' he ho hsz hk => wpAny_pyIter_enum he ?_
    have I2 : Inv X pins σ H1 { s1 with heap := h' } := I1.kept (t' := s1.toks) hk
    refine ⟨s1.heap.objs.size + 1, [s1.heap.objs.size + 1, s1.heap.objs.size], _, _, H1, rfl, I2, turn_enumT a (s1.heap.objs.size + 1) s1.heap.objs.size, ⟨⟨.none, he⟩, ⟨_, ho, rfl, rfl⟩, Nat.succ_ne_self _⟩, fun b hb => ?_, q⟩
    have hle : s1.heap.objs.size ≤ b := by
      rcases (show b = s1.heap.objs.size + 1 ∨ b = s1.heap.objs.size by simpa using hb) with z | z
      · exact z ▸ Nat.le_succ _
      · exact z ▸ Nat.le_refl _
    exact I1.fpOk hle (I1.hok.fresh hle)
/-! ### walks over abstract values -/
section
variable {K : PySem.W.Frag} {G H : Hp} {as : List Addr} {ws : List Ce}
theorem it_at (W : Wd K G H as ws) {x : D} {v : V} {ds : List D} {src : Option Nat} (e : itOf ws x = some (ds, src)) (r : Rep K as G x v) :
    ∃ a, v = .ref a ∧ (∃ vs, H a = some (.lst vs)) ∧ ∀ H2 as2 G2 ws2, as <+: as2 → Same G G2 → Wd K G2 H2 as2 ws2 → SrcOk src ds ws2 → ∃ vs, SqL K H2 a vs ∧ Reps K as2 G2 ds vs := by
  cases x with
  | lst l =>
    cases e
    simp only [Rep] at r
    obtain ⟨a, vs, e1, e2, e3⟩ := r
    exact ⟨a, e1, ⟨vs, W.le _ _ e2⟩, fun H2 as2 G2 ws2 hp hG W2 _ => ⟨vs, .inl (.inl (W2.le _ _ (hG _ _ e2))), e3.up hp hG⟩⟩
  | cell n =>
    simp only [itOf] at e
    cases q : ws[n]? with
    | none => rw [q] at e; cases e
    | some c =>
      rw [q] at e
      cases c with
      | lst l =>
        cases e
        obtain ⟨a, o, e1, e2, e3, vs, e4, e5⟩ := W.cellAt q (fun z => by cases z) r
        subst e4
        refine ⟨a, e1, ⟨vs, e3⟩, fun H2 as2 G2 ws2 hp hG W2 hs => ?_⟩
        rcases W2.at_ n _ a hs (prefix_get hp e2) with z | ⟨o2, f1, us, f2, f3⟩
        · cases z
        · subst f2
          exact ⟨us, .inl (.inl f1), f3⟩
      | _ => cases e
  | _ => cases e
theorem Reps.at {ds : List D} {vs : List V} {i : Nat} (r : Reps K as G ds vs) (hi : i < ds.length) : ∃ v, vs[i]? = some v ∧ Rep K as G ds[i] v := r.get (List.getElem?_eq_getElem hi)
theorem wk_list {a : Addr} {ds : List D} {src : Option Nat} (h : ∀ H2 as2 G2 ws2, as <+: as2 → Same G G2 → Wd K G2 H2 as2 ws2 → SrcOk src ds ws2 → ∃ vs, SqL K H2 a vs ∧ Reps K as2 G2 ds vs) : Wk K as G ds src (Itl K a) where
  go := fun i H2 as2 G2 ws2 hp hG W hs hi => by
    obtain ⟨vs, h1, h2⟩ := h H2 as2 G2 ws2 hp hG W hs
    obtain ⟨v, h3, _⟩ := h2.at hi
    exact ⟨vs, v, h1, h3⟩
  stop := fun H2 as2 G2 ws2 hp hG W hs => by
    obtain ⟨vs, h1, h2⟩ := h H2 as2 G2 ws2 hp hG W hs
    exact ⟨vs, h1, by rw [h2.len] <;> exact Nat.le_refl _⟩
  yld := fun i H2 x H' as2 G2 ws2 hp hG W hs hi y => by
    obtain ⟨vs, h1, h2⟩ := h H2 as2 G2 ws2 hp hG W hs
    obtain ⟨v, h3, h4⟩ := h2.at hi
    obtain ⟨e, hx⟩ := y
    have := hx vs h1
    rw [h3] at this
    cases this
    subst e
    exact ⟨_, G2, List.getElem?_eq_getElem hi, Rch.refl, W, h4⟩
theorem wk_tup {a : Addr} {ds : List D} {vs : List V} (e : G a = some (.tup vs)) (r : Reps K as G ds vs) : Wk K as G ds none (Itt K a) where
  go := fun i H2 as2 G2 ws2 hp hG W hs hi => by
    obtain ⟨v, h3, _⟩ := r.at hi
    exact ⟨vs, v, .inl (.inl (W.le _ _ (hG _ _ e))), h3⟩
  stop := fun H2 as2 G2 ws2 hp hG W hs => ⟨vs, .inl (.inl (W.le _ _ (hG _ _ e))), by rw [r.len] <;> exact Nat.le_refl _⟩
  yld := fun i H2 x H' as2 G2 ws2 hp hG W hs hi y => by
    obtain ⟨v, h3, h4⟩ := r.at hi
    obtain ⟨e', hx⟩ := y
    have := hx vs (.inl (.inl (W.le _ _ (hG _ _ e))))
    rw [h3] at this
    cases this
    subst e'
    exact ⟨_, G2, List.getElem?_eq_getElem hi, Rch.refl, W, h4.up hp hG⟩
/-- a new pair -/
theorem pair_new {as2 : List Addr} {G2 H2 H' : Hp} {ws2 : List Ce} {T : Addr} {i : Nat} {d : D} {x v : V} (W : Wd K G2 H2 as2 ws2) (hv : v = .ref T) (hT : H2 T = none) (hH : H' = upd H2 T (.tup [.int (i : Nat), x])) (r : Rep K as2 G2 d x) :
    ∃ G3, Rch G2 H2 as2 G3 H' as2 ∧ Wd K G3 H' as2 ws2 ∧ Rep K as2 G3 (.tup [.int (i : Nat), d]) v := by
  subst hv hH
  have q := (Rch.new (as := as2) (o := .tup [.int (i : Nat), x]) W.le hT)
  refine ⟨_, q, W.new hT, ?_⟩
  simp only [Rep]
  exact ⟨T, _, rfl, upd_same, Reps.cons (by simp [Rep]) (Reps.one (r.up (List.prefix_refl _) q.up))⟩
theorem wk_enumL {a : Addr} {ds : List D} {vs : List V} (e : G a = some (.lst vs)) (r : Reps K as G ds vs) : Wk K as G (enumD ds) none (Ite K a) where
  go := fun i H2 as2 G2 ws2 hp hG W hs hi => by
    rw [enumD_len] at hi
    obtain ⟨v, h3, _⟩ := r.at hi
    exact ⟨vs, v, .inl (.inl (W.le _ _ (hG _ _ e))), h3⟩
  stop := fun H2 as2 G2 ws2 hp hG W hs => ⟨vs, .inl (.inl (W.le _ _ (hG _ _ e))), by rw [enumD_len, r.len] <;> exact Nat.le_refl _⟩
  yld := fun i H2 x H' as2 G2 ws2 hp hG W hs hi y => by
    rw [enumD_len] at hi
    obtain ⟨v, h3, h4⟩ := r.at hi
    obtain ⟨T, u, e1, e2, e3, hx⟩ := y
    have := hx vs (.inl (.inl (W.le _ _ (hG _ _ e))))
    rw [h3] at this
    cases this
    obtain ⟨G3, q1, q2, q3⟩ := pair_new W e1 e2 e3 (h4.up hp hG)
    exact ⟨_, G3, enumD_get (List.getElem?_eq_getElem hi), q1, q2, q3⟩
theorem wk_enumT {a : Addr} {ds : List D} {vs : List V} (e : G a = some (.tup vs)) (r : Reps K as G ds vs) : Wk K as G (enumD ds) none (IteT K a) where
  go := fun i H2 as2 G2 ws2 hp hG W hs hi => by
    rw [enumD_len] at hi
    obtain ⟨v, h3, _⟩ := r.at hi
    exact ⟨vs, v, .inl (.inl (W.le _ _ (hG _ _ e))), h3⟩
  stop := fun H2 as2 G2 ws2 hp hG W hs => ⟨vs, .inl (.inl (W.le _ _ (hG _ _ e))), by rw [enumD_len, r.len]⟩
  yld := fun i H2 x H' as2 G2 ws2 hp hG W hs hi y => by
    rw [enumD_len] at hi
    obtain ⟨v, h3, h4⟩ := r.at hi
    obtain ⟨T, u, e1, e2, e3, hx⟩ := y
    have := hx vs (.inl (.inl (W.le _ _ (hG _ _ e))))
    rw [h3] at this
    cases this
    obtain ⟨G3, q1, q2, q3⟩ := pair_new W e1 e2 e3 (h4.up hp hG)
    exact ⟨_, G3, enumD_get (List.getElem?_eq_getElem hi), q1, q2, q3⟩
theorem wk_range {lo : Int} {n : Nat} : Wk K as G (intsD lo n) none (Itr lo n) where
  go := fun i H2 as2 G2 ws2 hp hG W hs hi => by
    rw [intsD_len] at hi
    exact hi
  stop := fun H2 as2 G2 ws2 hp hG W hs => by
    rw [intsD_len]
    exact Nat.le_refl _
  yld := fun i H2 x H' as2 G2 ws2 hp hG W hs hi y => by
    rw [intsD_len] at hi
    obtain ⟨e, hx⟩ := y
    subst e
    exact ⟨_, G2, intsD_get hi, Rch.refl, W, by simpa [Rep] using hx⟩
theorem signsD_get {s : Str} {i : Nat} {c : Nat} (h : s.cps[i]? = some c) : (signsD s)[i]? = some (.str ⟨#[c]⟩) := by
  unfold signsD
  rw [List.getElem?_map, Array.getElem?_toList, h] <;> rfl
theorem signsD_len {s : Str} : (signsD s).length = s.cps.size := by simp [signsD]
theorem wk_str {s : Str} : Wk K as G (signsD s) none (Its s) where
  go := fun i H2 as2 G2 ws2 hp hG W hs hi => by
    rw [signsD_len] at hi
    exact hi
  stop := fun H2 as2 G2 ws2 hp hG W hs => by
    rw [signsD_len]
    exact Nat.le_refl _
  yld := fun i H2 x H' as2 G2 ws2 hp hG W hs hi y => by
    obtain ⟨e, c, h1, h2⟩ := y
    subst e
    exact ⟨_, G2, signsD_get h1, Rch.refl, W, by simpa [Rep] using h2⟩
end
section
variable {K : PySem.W.Frag} {X : Cx} {E : XK} {tg e : Expr} {es : List Expr} {te : TE} {ta : TA} {se : Se} {sa : Sa} {pos p tpos : Pos} {elts : List Expr} {kk : Nat}
theorem ai_list (h : AE K X E e te se) : AI K X E tg e (iList K te) (sItL se) := by
  have e0 := h.hK
  subst e0
  refine ⟨rfl, pi_list h.pe, fun ρ ws G H as σ Q W S P => h.ev ρ ws G H as σ _ W S (Post.bind P fun x ws1 v G1 H1 as1 r1 W1 rx P1 => ?_)⟩
  obtain ⟨z, hz, P2⟩ := Post.ofO P1
  obtain ⟨ds, src⟩ := z
  obtain ⟨a, e1, ⟨vs, e2⟩, e3⟩ := it_at W1 hz rx
  exact ⟨a, e1, ⟨vs, .inl (.inl e2)⟩, Post.done P2 W1 (wk_list e3)⟩
theorem ai_tup (h : AE K X E e te se) : AI K X E tg e (iTup K te) (sItT se) := by
  have e0 := h.hK
  subst e0
  refine ⟨rfl, pi_tup h.pe, fun ρ ws G H as σ Q W S P => h.ev ρ ws G H as σ _ W S (Post.bind P fun x ws1 v G1 H1 as1 r1 W1 rx P1 => ?_)⟩
  obtain ⟨z, hz, P2⟩ := Post.ofO P1
  obtain ⟨ds, h1, h2⟩ := Option.map_eq_some_iff.mp hz
  subst h2
  cases x with
  | tup l =>
    cases h1
    simp only [Rep] at rx
    obtain ⟨a, vs, e1, e2, e3⟩ := rx
    exact ⟨a, e1, ⟨vs, .inl (.inl (W1.le _ _ e2))⟩, Post.done P2 W1 (wk_tup e2 e3)⟩
  | _ => cases h1
theorem ai_range1 (hg : Gl X "range") (hm : X.mg "range" = none) (h : AA K X E [e] ta sa) (hs : starEach [e] X.env = [(false, eval e X.env)] := by rfl) : AI K X E tg (.Call (.Name "range" p) [e] [] pos) (iRng1 ta) (sItR1 sa) := by
  refine ⟨h.hK, pi_range1 hg hm h.pe hs, fun ρ ws G H as σ Q W S P => h.ev ρ ws G H as σ _ W S (Post.bind P fun ds ws1 vs G1 H1 as1 r1 W1 rx P1 => ?_)⟩
  split at P1
  · rename_i j
    split at P1
    · rename_i hj
      obtain ⟨v, vs', e1, e2, e3⟩ := rx.uncons
      rw [e3.unnil] at e1
      simp only [Rep] at e2
      subst e1 e2
      exact ⟨j, rfl, by omega, by omega, Post.done P1 W1 wk_range⟩
    · exact False.elim P1
  · exact False.elim P1
theorem ai_range2 {a b : Expr} (hg : Gl X "range") (hm : X.mg "range" = none) (h : AA K X E [a, b] ta sa) (hs : starEach [a, b] X.env = [(false, eval a X.env), (false, eval b X.env)] := by rfl) (hs2 : starEach [b] X.env = [(false, eval b X.env)] := by rfl) : AI K X E tg (.Call (.Name "range" p) [a, b] [] pos) (iRng2 ta) (sItR2 sa) := by
  refine ⟨h.hK, pi_range2 hg hm h.pe hs hs2, fun ρ ws G H as σ Q W S P => h.ev ρ ws G H as σ _ W S (Post.bind P fun ds ws1 vs G1 H1 as1 r1 W1 rx P1 => ?_)⟩
  split at P1
  · rename_i i j
    split at P1
    · rename_i hj
      obtain ⟨v, vs', e1, e2, e3⟩ := rx.uncons
      obtain ⟨v', vs'', f1, f2, f3⟩ := e3.uncons
      rw [f3.unnil] at f1
      simp only [Rep] at e2 f2
      subst f1 e1 e2 f2
      exact ⟨i, j, rfl, ⟨by omega, by omega, by omega, by omega⟩, Post.done P1 W1 wk_range⟩
    · exact False.elim P1
  · exact False.elim P1
theorem ai_str (h : AE K X E e te se) : AI K X E tg e (iStr te) (sItS se) := by
  refine ⟨h.hK, pi_str h.pe, fun ρ ws G H as σ Q W S P => h.ev ρ ws G H as σ _ W S (Post.bind P fun x ws1 v G1 H1 as1 r1 W1 rx P1 => ?_)⟩
  cases x with
  | str s =>
    simp only [Rep] at rx
    exact ⟨s, rx, Post.done P1 W1 wk_str⟩
  | _ => exact False.elim P1
theorem ai_enum (hg : Gl X "enumerate") (hm : X.mg "enumerate" = none) (h : AA K X E [e] ta sa) (hs : starEach [e] X.env = [(false, eval e X.env)] := by rfl) : AI K X E (.Tuple elts kk tpos) (.Call (.Name "enumerate" p) [e] [] pos) (iEnum K ta) (sItE sa) := by
  have e0 := h.hK
  subst e0
  refine ⟨rfl, pi_enum hg hm h.pe hs, fun ρ ws G H as σ Q W S P => h.ev ρ ws G H as σ _ W S (Post.bind P fun ds ws1 vs G1 H1 as1 r1 W1 rx P1 => ?_)⟩
  split at P1
  · rename_i l
    obtain ⟨v, vs', e1, e2, e3⟩ := rx.uncons
    rw [e3.unnil] at e1
    simp only [Rep] at e2
    obtain ⟨a, us, e4, e5, e6⟩ := e2
    subst e1 e4
    exact ⟨a, us, rfl, .inl (.inl (W1.le _ _ e5)), Post.done P1 W1 (wk_enumL e5 e6)⟩
  · exact False.elim P1
theorem ai_enumT (hg : Gl X "enumerate") (hm : X.mg "enumerate" = none) (h : AA K X E [e] ta sa) (hs : starEach [e] X.env = [(false, eval e X.env)] := by rfl) : AI K X E (.Tuple elts kk tpos) (.Call (.Name "enumerate" p) [e] [] pos) (iEnumT K ta) (sItET sa) := by
  have e0 := h.hK
  subst e0
  refine ⟨rfl, pi_enumT hg hm h.pe hs, fun ρ ws G H as σ Q W S P => h.ev ρ ws G H as σ _ W S (Post.bind P fun ds ws1 vs G1 H1 as1 r1 W1 rx P1 => ?_)⟩
  split at P1
  · rename_i l
    obtain ⟨v, vs', e1, e2, e3⟩ := rx.uncons
    rw [e3.unnil] at e1
    simp only [Rep] at e2
    obtain ⟨a, us, e4, e5, e6⟩ := e2
    subst e1 e4
    exact ⟨a, us, rfl, .inl (.inl (W1.le _ _ e5)), Post.done P1 W1 (wk_enumT e5 e6)⟩
  · exact False.elim P1
end
end RL
set_option Elab.async false
set_option linter.all false
set_option maxRecDepth 100000
/-! RL6: built-ins by values, methods of lists and texts, slices, f-strings, items stored. -/
namespace RL
open PySem PySem.Spec PyProof.Rows L2
/-! ### calls of built-ins -/
abbrev Fb := List D → List Ce → Option (D × List Ce)
def CaD (K : PySem.W.Frag) (r : List V → Hp → VK → Prop) (f : Fb) : Prop := ∀ ws G H as xs ds y ws' Q, Wd K G H as ws → Reps K as G ds xs → f ds ws = some (y, ws') →
  (∀ v G' H' as', Rch G H as G' H' as' → Wd K G' H' as' ws' → Rep K as' G' y v → Q v H') → r xs H Q
def sCB (f : Fb) (a : Sa) : Se := fun ρ ws => (a ρ ws).bind fun ds ws1 => match f ds ws1 with
  | some p => .ok p.1 p.2
  | none => .bad
theorem evCB {K : PySem.W.Frag} {E : XK} {r : List V → Hp → VK → Prop} {f : Fb} {ta : TA} {a : Sa} (h : CaD K r f) (ha : EvA K E ta a) : EvE K E (tCB r ta) (sCB f a) := fun ρ ws G H as σ Q W S P => by
  refine ha ρ ws G H as σ _ W S (Post.bind P fun ds ws1 vs G1 H1 as1 r1 W1 rs P1 => ?_)
  split at P1
  · rename_i p hp
    exact h ws1 G1 H1 as1 vs ds p.1 p.2 Q W1 rs hp fun v G' H' as' q w rep => P1 v G' H' as' q w rep
  · exact False.elim P1
section
variable {K : PySem.W.Frag} {X : Cx} {E : XK} {e : Expr} {es : List Expr} {ta : TA} {sa : Sa} {r : List V → Hp → VK → Prop} {f : Fb} {x : Str} {id T : String} {p pos : Pos}
theorem ae_blt (hc : CallR X (.builtin id) r) (h : CaD K r f) (hm : X.mg x = none) (ha : AA K X E (e :: es) ta sa) (hv : bootBuiltins x = some (.builtin id) := by rfl) (hg : Gl X x := by rfl) (hn : x ≠ "__name__" := by decide) (hdb : (x == ("__debug__" : Str)) = false := by decide)
    (he : starEach (e :: es) X.env = (false, eval e X.env) :: starEach es X.env := by rfl) (hpl : (backTo pos (starEach es X.env)).any (·.1) = false := by rfl) : AE K X E (.Call (.Name x p) (e :: es) [] pos) (tCB r ta) (sCB f sa) :=
  ⟨ha.hK, pe_callB hc hg hm hv ha.pe hn hdb he hpl, evCB h ha.ev⟩
theorem ae_ty (hc : CallR X (.type T) r) (h : CaD K r f) (hm : X.mg x = none) (ha : AA K X E (e :: es) ta sa) (hv : bootBuiltins x = some (.type T) := by rfl) (hg : Gl X x := by rfl) (hn : x ≠ "__name__" := by decide) (hdb : (x == ("__debug__" : Str)) = false := by decide)
    (he : starEach (e :: es) X.env = (false, eval e X.env) :: starEach es X.env := by rfl) (hpl : (backTo pos (starEach es X.env)).any (·.1) = false := by rfl) : AE K X E (.Call (.Name x p) (e :: es) [] pos) (tCB r ta) (sCB f sa) :=
  ⟨ha.hK, pe_callTy hc hg hm hv ha.pe hn hdb he hpl, evCB h ha.ev⟩
end
section
variable {K : PySem.W.Frag}
/-- a pure answer from one argument -/
def fb1 (g : List Ce → D → Option D) : Fb := fun ds ws => match ds with
  | [x] => (g ws x).map fun y => (y, ws)
  | _ => none
theorem CaD.one {r : List V → Hp → VK → Prop} {g : List Ce → D → Option D} (h : ∀ (ws : List Ce) (G H : Hp) (as : List Addr) (x : V) (d z : D) (Q : VK), Wd K G H as ws → Rep K as G d x → g ws d = some z → (∀ v, Rep K as G z v → Q v H) → r [x] H Q) : CaD K r (fb1 g) := fun ws G H as xs ds y ws' Q W rs e k => by
  unfold fb1 at e
  split at e
  · rename_i d
    obtain ⟨z, h1, h2⟩ := Option.map_eq_some_iff.mp e
    cases h2
    obtain ⟨v, vs, e1, e2, e3⟩ := rs.uncons
    rw [e3.unnil] at e1
    subst e1
    exact h ws G H as v d _ Q W e2 h1 fun u ru => k u G H as Rch.refl W ru
  · cases e
def gLen : List Ce → D → Option D := fun ws x => match x with
  | .str s => if s.length ≤ 100000 then some (.int (s.length : Nat)) else none
  | _ => (seqOf ws x).map fun l => .int (l.length : Nat)
theorem cd_len : CaD K (fun xs H Q => ∃ x n, xs = [x] ∧ LenV K x H n ∧ Q (.int n) H) (fb1 gLen) := .one fun ws G H as x d z Q W r e k => by
  unfold gLen at e
  split at e
  · rename_i s
    split at e
    · rename_i h
      cases e
      simp only [Rep] at r
      subst r
      exact ⟨_, _, rfl, ⟨small5 h, rfl⟩, k _ (by simp [Rep])⟩
    · cases e
  · obtain ⟨l, h1, h2⟩ := Option.map_eq_some_iff.mp e
    subst h2
    obtain ⟨a, vs, e1, e2, e3⟩ := seq_rep W h1 r
    subst e1
    exact ⟨_, l.length, rfl, e2.imp (fun q => ⟨vs, q, e3.len⟩) (fun q => ⟨vs, q, e3.len⟩), k _ (by simp [Rep])⟩
def gInt : List Ce → D → Option D := fun _ x => match x with
  | .int i => some (.int i)
  | .bl b => some (.int (if b then 1 else 0))
  | _ => none
theorem cd_int : CaD K (fun xs H Q => (∃ i, xs = [.int i] ∧ Q (.int i) H) ∨ ∃ k, xs = [.bl k] ∧ Q (.int (if k then 1 else 0)) H) (fb1 gInt) := .one fun ws G H as x d z Q W r e k => by
  unfold gInt at e
  split at e
  · cases e
    simp only [Rep] at r
    subst r
    exact .inl ⟨_, rfl, k _ (by simp [Rep])⟩
  · cases e
    simp only [Rep] at r
    subst r
    exact .inr ⟨_, rfl, k _ (by simp [Rep])⟩
  · cases e
def gIntS : List Ce → D → Option D := fun _ x => match x with
  | .str a => if a.length ≤ 640 then (PySem.intText? a).map .int else none
  | _ => none
theorem cd_intS : CaD K (fun xs H Q => ∃ a n, xs = [.str a] ∧ PySem.intText? a = some n ∧ a.length ≤ 640 ∧ Q (.int n) H) (fb1 gIntS) := .one fun ws G H as x d z Q W r e k => by
  unfold gIntS at e
  split at e
  · split at e
    · rename_i h
      obtain ⟨n, h1, h2⟩ := Option.map_eq_some_iff.mp e
      subst h2
      simp only [Rep] at r
      subst r
      exact ⟨_, n, rfl, h1, h, k _ (by simp [Rep])⟩
    · cases e
  · cases e
def gStr : List Ce → D → Option D := fun _ x => match x with
  | .int i => if i.natAbs.log2 < 1920 then some (.str (toString i)) else none
  | _ => none
theorem cd_str : CaD K (fun xs H Q => ∃ i, xs = [.int i] ∧ i.natAbs.log2 < 1920 ∧ Q (.str (toString i)) H) (fb1 gStr) := .one fun ws G H as x d z Q W r e k => by
  unfold gStr at e
  split at e
  · split at e
    · rename_i h
      cases e
      simp only [Rep] at r
      subst r
      exact ⟨_, rfl, h, k _ (by simp [Rep])⟩
    · cases e
  · cases e
def gStrS : List Ce → D → Option D := fun _ x => match x with
  | .str a => some (.str a)
  | _ => none
theorem cd_strS : CaD K (fun xs H Q => ∃ a, xs = [.str a] ∧ Q (.str a) H) (fb1 gStrS) := .one fun ws G H as x d z Q W r e k => by
  unfold gStrS at e
  split at e
  · cases e
    simp only [Rep] at r
    subst r
    exact ⟨_, rfl, k _ (by simp [Rep])⟩
  · cases e
def gAbs : List Ce → D → Option D := fun _ x => match x with
  | .int i => some (.int (if i < 0 then -i else i))
  | _ => none
theorem cd_abs : CaD K (fun xs H Q => ∃ i, xs = [.int i] ∧ Q (.int (if i < 0 then -i else i)) H) (fb1 gAbs) := .one fun ws G H as x d z Q W r e k => by
  unfold gAbs at e
  split at e
  · cases e
    simp only [Rep] at r
    subst r
    exact ⟨_, rfl, k _ (by simp [Rep])⟩
  · cases e
/-! lists of one kind -/
def blsOf : List D → Option (List Bool)
  | [] => some []
  | .bl b :: ds => (blsOf ds).map (b :: ·)
  | _ => none
def intsOf : List D → Option (List Int)
  | [] => some []
  | .int b :: ds => (intsOf ds).map (b :: ·)
  | _ => none
def strsOf : List D → Option (List Str)
  | [] => some []
  | .str b :: ds => (strsOf ds).map (b :: ·)
  | _ => none
theorem blsOf_eq : ∀ {ds : List D} {bs : List Bool}, blsOf ds = some bs → ds = bs.map .bl
  | [], bs, h => by simp [blsOf] at h; subst h; rfl
  | d :: ds, bs, h => by
    cases d <;> simp [blsOf] at h
    obtain ⟨cs, h1, h2⟩ := h
    subst h2
    rw [blsOf_eq h1] <;> rfl
theorem intsOf_eq : ∀ {ds : List D} {bs : List Int}, intsOf ds = some bs → ds = bs.map .int
  | [], bs, h => by simp [intsOf] at h; subst h; rfl
  | d :: ds, bs, h => by
    cases d <;> simp [intsOf] at h
    obtain ⟨cs, h1, h2⟩ := h
    subst h2
    rw [intsOf_eq h1] <;> rfl
theorem strsOf_eq : ∀ {ds : List D} {bs : List Str}, strsOf ds = some bs → ds = bs.map .str
  | [], bs, h => by simp [strsOf] at h; subst h; rfl
  | d :: ds, bs, h => by
    cases d <;> simp [strsOf] at h
    obtain ⟨cs, h1, h2⟩ := h
    subst h2
    rw [strsOf_eq h1] <;> rfl
@[simp] theorem blsOf_map (bs : List Bool) : blsOf (bs.map .bl) = some bs := by induction bs <;> simp_all [blsOf]
@[simp] theorem intsOf_map (bs : List Int) : intsOf (bs.map .int) = some bs := by induction bs <;> simp_all [intsOf]
@[simp] theorem strsOf_map (bs : List Str) : strsOf (bs.map .str) = some bs := by induction bs <;> simp_all [strsOf]
theorem reps_bl {as : List Addr} {G : Hp} : ∀ {bs : List Bool} {vs : List V}, Reps K as G (bs.map .bl) vs → vs = bs.map .bl
  | [], vs, h => h.unnil
  | b :: bs, vs, h => by
    obtain ⟨v, us, e1, e2, e3⟩ := Reps.uncons (ds := bs.map .bl) h
    simp only [Rep] at e2
    rw [e1, e2, reps_bl e3] <;> rfl
theorem reps_int {as : List Addr} {G : Hp} : ∀ {bs : List Int} {vs : List V}, Reps K as G (bs.map .int) vs → vs = bs.map .int
  | [], vs, h => h.unnil
  | b :: bs, vs, h => by
    obtain ⟨v, us, e1, e2, e3⟩ := Reps.uncons (ds := bs.map .int) h
    simp only [Rep] at e2
    rw [e1, e2, reps_int e3] <;> rfl
theorem reps_str {as : List Addr} {G : Hp} : ∀ {bs : List Str} {vs : List V}, Reps K as G (bs.map .str) vs → vs = bs.map .str
  | [], vs, h => h.unnil
  | b :: bs, vs, h => by
    obtain ⟨v, us, e1, e2, e3⟩ := Reps.uncons (ds := bs.map .str) h
    simp only [Rep] at e2
    rw [e1, e2, reps_str e3] <;> rfl
theorem str_reps {as : List Addr} {G : Hp} : ∀ {bs : List Str}, Reps K as G (bs.map .str) (bs.map .str)
  | [] => Reps.nil
  | b :: bs => Reps.cons (by simp [Rep]) str_reps
def gAll : List Ce → D → Option D := fun ws x => (lstOf ws x).bind fun l => (blsOf l).map fun bs => .bl (bs.all id)
def gAny : List Ce → D → Option D := fun ws x => (lstOf ws x).bind fun l => (blsOf l).map fun bs => .bl (bs.any id)
theorem cd_all : CaD K (rAll K) (fb1 gAll) := .one fun ws G H as x d z Q W r e k => by
  simp only [gAll, Option.bind_eq_some_iff, Option.map_eq_some_iff] at e
  obtain ⟨l, h1, bs, h2, h3⟩ := e
  obtain ⟨a, vs, e1, e2, e3⟩ := lst_rep W h1 r
  rw [blsOf_eq h2] at e3
  rw [reps_bl e3] at e2
  subst e1 h3
  exact ⟨a, bs, rfl, .inl (.inl e2), k _ (by simp [Rep])⟩
theorem cd_any : CaD K (rAny K) (fb1 gAny) := .one fun ws G H as x d z Q W r e k => by
  simp only [gAny, Option.bind_eq_some_iff, Option.map_eq_some_iff] at e
  obtain ⟨l, h1, bs, h2, h3⟩ := e
  obtain ⟨a, vs, e1, e2, e3⟩ := lst_rep W h1 r
  rw [blsOf_eq h2] at e3
  rw [reps_bl e3] at e2
  subst e1 h3
  exact ⟨a, bs, rfl, .inl (.inl e2), k _ (by simp [Rep])⟩
def maxI : List Int → Int
  | [] => 0
  | [a] => a
  | a :: l => max a (maxI l)
theorem maxI_spec : ∀ (l : List Int) (m : Int), m ∈ l → (∀ y ∈ l, y ≤ m) → m = maxI l
  | [], m, h, _ => by cases h
  | [a], m, h, _ => by simpa [maxI] using h
  | a :: b :: l, m, h, k => by
    show m = max a (maxI (b :: l))
    rcases List.mem_cons.mp h with e | e
    · subst e
      have hm : maxI (b :: l) ≤ m := by
        have : ∀ (l : List Int), l ≠ [] → maxI l ∈ l := by
          intro l
          induction l with
          | nil => intro h; exact absurd rfl h
          | cons c l ih =>
            intro _
            cases l with
            | nil => simp [maxI]
            | cons d l =>
              have := ih (by simp)
              show max c (maxI (d :: l)) ∈ _
              rcases Int.le_total c (maxI (d :: l)) with q | q
              · rw [Int.max_eq_right q]
                exact List.mem_cons_of_mem _ this
              · rw [Int.max_eq_left q]
                exact List.mem_cons_self
        exact k _ (List.mem_cons_of_mem _ (this _ (by simp)))
      omega
    · have q := maxI_spec (b :: l) m e fun y hy => k y (List.mem_cons_of_mem _ hy)
      have := k a List.mem_cons_self
      omega
def gMax : List Ce → D → Option D := fun ws x => (lstOf ws x).bind fun l => (intsOf l).bind fun bs => if 0 < bs.length then some (.int (maxI bs)) else none
theorem cd_max : CaD K (rMax K) (fb1 gMax) := .one fun ws G H as x d z Q W r e k => by
  simp only [gMax, Option.bind_eq_some_iff] at e
  obtain ⟨l, h1, bs, h2, h3⟩ := e
  split at h3
  · rename_i h4
    cases h3
    obtain ⟨a, vs, e1, e2, e3⟩ := lst_rep W h1 r
    rw [intsOf_eq h2] at e3
    rw [reps_int e3] at e2
    subst e1
    exact ⟨a, bs, rfl, .inl (.inl e2), h4, fun m hm hy => by rw [maxI_spec bs m hm hy]; exact k _ (by simp [Rep])⟩
  · cases h3
def gTuple : List Ce → D → Option D := fun ws x => (seqOf ws x).map .tup
theorem cd_tuple : CaD K (fun xs H Q => ∃ p ys, xs = [.ref p] ∧ ((SqL K H p ys ∧ ∀ l, H l = none → Q (.ref l) (upd H l (.tup ys))) ∨ (SqT K H p ys ∧ Q (.ref p) H))) (fb1 gTuple) := fun ws G H as xs ds y ws' Q W rs e k => by
  unfold fb1 at e
  split at e
  · rename_i d
    obtain ⟨z, h1, h2⟩ := Option.map_eq_some_iff.mp e
    cases h2
    obtain ⟨l, h3, h4⟩ := Option.map_eq_some_iff.mp h1
    subst h4
    obtain ⟨v, vs, e1, e2, e3⟩ := rs.uncons
    rw [e3.unnil] at e1
    subst e1
    rcases seqOf_cases h3 with h5 | h5
    · obtain ⟨a, us, f1, f2, f3⟩ := lst_rep W h5 e2
      subst f1
      refine ⟨a, us, rfl, .inl ⟨.inl (.inl f2), fun p hp => k _ _ _ as (Rch.new W.le hp) (W.new hp) ?_⟩⟩
      simp only [Rep]
      exact ⟨p, us, rfl, upd_same, f3.up (List.prefix_refl _) (Rch.new (as := as) W.le hp).up⟩
    · cases d with
      | tup l' =>
        cases h5
        have e2' := e2
        simp only [Rep] at e2
        obtain ⟨a, us, f1, f2, f3⟩ := e2
        subst f1
        exact ⟨a, us, rfl, .inr ⟨.inl (.inl (W.le _ _ f2)), k _ G H as Rch.refl W e2'⟩⟩
      | _ => cases h5
  · cases e
/-- list(x): a list that may be written -/
def fbList : Fb := fun ds ws => match ds with
  | [x] => (seqOf ws x).map fun l => (.cell ws.length, ws ++ [.lst l])
  | _ => none
theorem cd_list : CaD K (fun xs H Q => ∃ p ys, xs = [.ref p] ∧ (SqL K H p ys ∨ SqT K H p ys) ∧ ∀ l, H l = none → Q (.ref l) (upd H l (.lst ys))) fbList := fun ws G H as xs ds y ws' Q W rs e k => by
  unfold fbList at e
  split at e
  · rename_i d
    obtain ⟨l, h1, h2⟩ := Option.map_eq_some_iff.mp e
    cases h2
    obtain ⟨v, vs, e1, e2, e3⟩ := rs.uncons
    rw [e3.unnil] at e1
    subst e1
    obtain ⟨a, us, f1, f2, f3⟩ := seq_rep W h1 e2
    subst f1
    exact ⟨a, us, rfl, f2, fun p hp => k _ _ _ _ (Rch.cell hp) (W.cell (c := .lst l) hp ⟨us, rfl, f3.up (prefix_snoc _ _) (Same.refl _)⟩) (rep_cell W)⟩
  · cases e
end
end RL
set_option Elab.async false
set_option linter.all false
set_option maxRecDepth 100000
/-! RL7: methods of lists and texts, slices, f-strings, items stored. -/
namespace RL
open PySem PySem.Spec PyProof.Rows L2
abbrev Fm := D → List D → List Ce → Option (D × List Ce)
/-- what a method of the built-in type T does -/
def MeD (K : PySem.W.Frag) (T : String) (r : V → List V → Hp → VK → Prop) (f : Fm) : Prop :=
  ∀ ws G H as x xs d ds y ws' Q, Wd K G H as ws → Rep K as G d x → Reps K as G ds xs → f d ds ws = some (y, ws') →
  (∀ v G' H' as', Rch G H as G' H' as' → Wd K G' H' as' ws' → Rep K as' G' y v → Q v H') → r x xs H Q
/-- is it of the type T -/
def isTy (T : String) (ws : List Ce) (d : D) : Bool := match d with
  | .str _ => T == "str"
  | .lst _ => T == "list"
  | .cell n => (match ws[n]? with
    | some (.lst _) => T == "list"
    | _ => false)
  | _ => false
theorem isTy_ok {K : PySem.W.Frag} {G H : Hp} {as : List Addr} {ws : List Ce} {T : String} {d : D} {x : V} (W : Wd K G H as ws) (r : Rep K as G d x) (h : isTy T ws d = true) : tyV K T x H := by
  cases d with
  | str s =>
    simp only [Rep] at r
    subst r
    show T = "str"
    simpa [isTy] using h
  | lst l =>
    simp only [Rep] at r
    obtain ⟨a, vs, e1, e2, e3⟩ := r
    subst e1
    exact .inl ⟨by simpa [isTy] using h, vs, .inl (.inl (W.le _ _ e2))⟩
  | cell n =>
    simp only [isTy] at h
    cases q : ws[n]? with
    | none => rw [q] at h; cases h
    | some c =>
      rw [q] at h
      cases c with
      | lst l =>
        obtain ⟨a, o, e1, e2, e3, vs, e4, e5⟩ := W.cellAt q (fun z => by cases z) r
        subst e4 e1
        exact .inl ⟨by simpa using h, vs, .inl (.inl e3)⟩
      | _ => cases h
  | _ => cases h
def sMB (T : String) (f : Fm) (o : Se) (a : Sa) : Se := fun ρ ws => (o ρ ws).bind fun d ws1 => if isTy T ws1 d = true then (a ρ ws1).bind fun ds ws2 => match f d ds ws2 with
    | some p => .ok p.1 p.2
    | none => .bad
  else .bad
section
variable {K : PySem.W.Frag} {X : Cx} {E : XK} {o e : Expr} {es : List Expr} {to : TE} {ta : TA} {so : Se} {sa : Sa} {r : V → List V → Hp → VK → Prop} {f : Fm} {name : Str} {id T : String} {apos pos : Pos}
theorem evMB (h : MeD K T r f) (ho : EvE K E to so) (ha : EvA K E ta sa) : EvE K E (tBM K T r to ta) (sMB T f so sa) := fun ρ ws G H as σ Q W S P => by
  refine ho ρ ws G H as σ _ W S (Post.bind P fun d ws1 x G1 H1 as1 r1 W1 rx P1 => ?_)
  split at P1
  · rename_i ht
    refine ⟨isTy_ok W1 rx ht, ha ρ ws1 G1 H1 as1 σ _ W1 (S.up r1.pre r1.up) (Post.bind P1 fun ds ws2 xs G2 H2 as2 r2 W2 rs P2 => ?_)⟩
    split at P2
    · rename_i p hp
      exact h ws2 G2 H2 as2 x xs d ds p.1 p.2 Q W2 (rx.up r2.pre r2.up) rs hp fun v G' H' as' q w rep => P2 v G' H' as' q w rep
    · exact False.elim P2
  · exact False.elim P1
theorem ae_bm (pa : PlainAttrs T) (slot : Slot T name id) (hty : typeOf (.builtin id) = pure (.type "method_descriptor")) (hm : MtR X id r) (h : MeD K T r f) (ho : AE K X E o to so) (ha : AA K X E (e :: es) ta sa)
    (hbase : attributeBase o name X.env (eval o X.env) = eval o X.env := by rfl)
    (hfew : ((backTo pos (starEach (e :: es) X.env)).all (fun x => !x.1) && (backToKw pos (keywordEach [] X.env)).all (fun x => x.1.isSome)
      && decide ((e :: es).length + ([] : List Keyword).length + (if ([] : List Keyword).isEmpty then 0 else 1) < 30)) = true := by rfl)
    (hline : (apos.endLine == pos.line) = true := by rfl) (hs : starEach (e :: es) X.env = (false, eval e X.env) :: starEach es X.env := by rfl) (hplain : (backTo pos (starEach es X.env)).any (·.1) = false := by rfl) :
    AE K X E (.Call (.Attribute o name apos) (e :: es) [] pos) (tBM K T r to ta) (sMB T f so sa) := by
  have e0 := ho.hK
  subst e0
  exact ⟨rfl, pe_bm pa slot hty hm ho.pe ha.pe hbase hfew hline hs hplain, evMB h ho.ev ha.ev⟩
end
section
variable {K : PySem.W.Frag}
/-- a cell that holds a list -/
theorem cell_lst {G H : Hp} {as : List Addr} {ws : List Ce} {n : Nat} {l : List D} {x : V} (W : Wd K G H as ws) (q : ws[n]? = some (.lst l)) (r : Rep K as G (.cell n) x) : ∃ a vs, x = .ref a ∧ as[n]? = some a ∧ H a = some (.lst vs) ∧ Reps K as G l vs := by
  obtain ⟨a, o, e1, e2, e3, vs, e4, e5⟩ := W.cellAt q (fun z => by cases z) r
  subst e4
  exact ⟨a, vs, e1, e2, e3, e5⟩
def fmAppend : Fm := fun d ds ws => match d, ds with
  | .cell n, [y] => (match ws[n]? with
    | some (.lst l) => if l.length < 100000 then some (.non, ws.set n (.lst (l ++ [y]))) else none
    | _ => none)
  | _, _ => none
theorem md_append : MeD K "list" rAppend fmAppend := fun ws G H as x xs d ds y ws' Q W rx rs e k => by
  unfold fmAppend at e
  split at e
  · rename_i n y
    split at e
    · rename_i l q
      split at e
      · rename_i hl
        cases e
        obtain ⟨a, vs, e1, e2, e3, e4⟩ := cell_lst W q rx
        obtain ⟨v, us, f1, f2, f3⟩ := rs.uncons
        rw [f3.unnil] at f1
        exact ⟨a, vs, v, e1, f1, e3, small5' (by rw [← e4.len]; exact hl), k .non G _ as (Rch.put (List.mem_of_getElem? e2)) (W.put e2 q (fun z => by cases z) ⟨_, rfl, e4.app (Reps.one f2)⟩) (by simp [Rep])⟩
      · cases e
    · cases e
  · cases e
theorem Reps.erase {as : List Addr} {G : Hp} : ∀ {ds : List D} {vs : List V} {i : Nat}, Reps K as G ds vs → Reps K as G (ds.eraseIdx i) (vs.eraseIdx i)
  | [], vs, i, h => by
    rw [h.unnil]
    exact Reps.nil
  | d :: ds, vs, 0, h => by
    obtain ⟨u, us, e, h1, h2⟩ := h.uncons
    rw [e]
    exact h2
  | d :: ds, vs, i + 1, h => by
    obtain ⟨u, us, e, h1, h2⟩ := h.uncons
    rw [e]
    exact Reps.cons h1 (Reps.erase h2)
theorem Reps.take {as : List Addr} {G : Hp} : ∀ {ds : List D} {vs : List V} (i : Nat), Reps K as G ds vs → Reps K as G (ds.take i) (vs.take i)
  | _, _, 0, h => Reps.nil
  | [], vs, i + 1, h => by
    rw [h.unnil]
    exact Reps.nil
  | d :: ds, vs, i + 1, h => by
    obtain ⟨u, us, e, h1, h2⟩ := h.uncons
    rw [e]
    exact Reps.cons h1 (Reps.take i h2)
theorem Reps.drop {as : List Addr} {G : Hp} : ∀ {ds : List D} {vs : List V} (i : Nat), Reps K as G ds vs → Reps K as G (ds.drop i) (vs.drop i)
  | _, _, 0, h => h
  | [], vs, i + 1, h => by
    rw [h.unnil]
    exact Reps.nil
  | d :: ds, vs, i + 1, h => by
    obtain ⟨u, us, e, h1, h2⟩ := h.uncons
    rw [e]
    exact Reps.drop i h2
def fmPop : Fm := fun d ds ws => match d, ds with
  | .cell n, [.int i] => (match ws[n]? with
    | some (.lst l) => if -1000000 ≤ i ∧ i ≤ 1000000 then (seqIndex? i l.length).bind fun k => l[k]?.map fun y => (y, ws.set n (.lst (l.eraseIdx k))) else none
    | _ => none)
  | _, _ => none
theorem md_pop : MeD K "list" rPopAt fmPop := fun ws G H as x xs d ds y ws' Q W rx rs e k => by
  unfold fmPop at e
  split at e
  · rename_i n i
    split at e
    · rename_i l q
      split at e
      · rename_i hi
        simp only [Option.bind_eq_some_iff, Option.map_eq_some_iff] at e
        obtain ⟨j, h1, z, h2, h3⟩ := e
        cases h3
        obtain ⟨a, vs, e1, e2, e3, e4⟩ := cell_lst W q rx
        obtain ⟨v, us, f1, f2, f3⟩ := rs.uncons
        rw [f3.unnil] at f1
        simp only [Rep] at f2
        subst f2
        obtain ⟨u, g1, g2⟩ := e4.get h2
        exact ⟨a, vs, i, j, u, e1, f1, e3, by omega, by omega, by rw [← e4.len]; exact h1, g1, k u G _ as (Rch.put (List.mem_of_getElem? e2)) (W.put e2 q (fun z => by cases z) ⟨_, rfl, e4.erase⟩) g2⟩
      · cases e
    · cases e
  · cases e
def fmSplit : Fm := fun d ds ws => match d, ds with
  | .str a, [.str b] => if (b.length == 0) = false ∧ a.length ≤ 90000 then some (.lst ((Txt.split a b).map .str), ws) else none
  | _, _ => none
theorem md_split : MeD K "str" (fun x xs H Q => ∃ a b, x = .str a ∧ xs = [.str b] ∧ (b.length == 0) = false ∧ a.length + 2 ≤ sizeLine ∧ rNewStrs (Txt.split a b) H Q) fmSplit := fun ws G H as x xs d ds y ws' Q W rx rs e k => by
  unfold fmSplit at e
  split at e
  · rename_i a b
    split at e
    · rename_i h
      cases e
      obtain ⟨v, us, f1, f2, f3⟩ := rs.uncons
      rw [f3.unnil] at f1
      simp only [Rep] at f2 rx
      subst f2 f1 rx
      refine ⟨a, b, rfl, rfl, h.1, small5 (n := a.length + 2) (by
        have := h.2
        omega), fun p hp => k _ _ _ as (Rch.new W.le hp) (W.new hp) ?_⟩
      simp only [Rep]
      exact ⟨p, _, rfl, upd_same, str_reps⟩
    · cases e
  · cases e
def joinD (a : Str) (ys : List Str) (ws : List Ce) : Option (D × List Ce) := if (ys.map (·.length)).sum + ys.length * a.length ≤ 100000 then some (.str (Txt.join a ys), ws) else none
def fmJoin : Fm := fun d ds ws => match d, ds with
  | .str a, [x] => (seqOf ws x).bind fun l => (strsOf l).bind fun ys => joinD a ys ws
  | _, _ => none
theorem md_join : MeD K "str" (fun x xs H Q => ∃ a p, ∃ ys : List Str, x = .str a ∧ xs = [.ref p] ∧ (SqL K H p (ys.map V.str) ∨ SqT K H p (ys.map V.str)) ∧
    (ys.map (·.length)).sum + ys.length * a.length ≤ 16777216 ∧ Q (.str (Txt.join a ys)) H) fmJoin := fun ws G H as x xs d ds y ws' Q W rx rs e k => by
  unfold fmJoin at e
  split at e
  · rename_i a x
    simp only [Option.bind_eq_some_iff] at e
    obtain ⟨l, h1, ys, h2, h3⟩ := e
    unfold joinD at h3
    split at h3
    · rename_i h
      cases h3
      obtain ⟨v, us, f1, f2, f3⟩ := rs.uncons
      rw [f3.unnil] at f1
      simp only [Rep] at rx
      obtain ⟨p, vs, g1, g2, g3⟩ := seq_rep W h1 f2
      rw [strsOf_eq h2] at g3
      rw [reps_str g3] at g2
      subst f1 rx g1
      exact ⟨a, p, ys, rfl, rfl, g2, by omega, k _ G H as Rch.refl W (by simp [Rep])⟩
    · cases h3
  · cases e
end
/-! ### slices -/
def soNone : So := fun _ ws => .ok none ws
def soSome (a : Se) : So := fun ρ ws => (a ρ ws).bind fun d ws1 => match d with
  | .int i => .ok (some i) ws1
  | _ => .bad
def cutG {α : Type} (xs : List α) (lo hi : Option Int) : List α := (xs.drop (HT.sIx xs.length 0 lo)).take (HT.sIx xs.length xs.length hi - HT.sIx xs.length 0 lo)
def sSlice (a : Se) (lo hi : So) : Se := fun ρ ws => (a ρ ws).bind fun x ws1 => (lo ρ ws1).bind fun l ws2 => (hi ρ ws2).bind fun u ws3 => match x with
  | .tup m => .ok (.tup (cutG m l u)) ws3
  | .fz m => .ok (.lst (cutG m l u)) ws3
  | _ => match lstOf ws3 x with
    | some m => .ok (.lst (cutG m l u)) ws3
    | none => .bad
section
variable {K : PySem.W.Frag} {X : Cx} {E : XK} {e : Expr} {te : TE} {se : Se} {pos p2 : Pos}
theorem ao_none (hK : X.K = K := by rfl) : AO K X E none tNoPart soNone := ⟨hK, po_none, fun ρ ws G H as σ Q W S P => Post.done P W rfl⟩
theorem ao_some (h : AE K X E e te se) : AO K X E (some e) (tPart te) (soSome se) := ⟨h.hK, po_some h.pe, fun ρ ws G H as σ Q W S P => h.ev ρ ws G H as σ _ W S (Post.bind P fun d ws1 v G1 H1 as1 r1 W1 rx P1 => by
  cases d with
  | int i =>
    simp only [Rep] at rx
    exact ⟨i, rx, Post.done P1 W1 rfl⟩
  | _ => exact False.elim P1)⟩
theorem Reps.cut {as : List Addr} {G : Hp} {ds : List D} {vs : List V} (h : Reps K as G ds vs) (lo hi : Option Int) : Reps K as G (cutG ds lo hi) (cutV vs lo hi) := by
  unfold cutG cutV
  rw [h.len]
  exact (h.drop _).take _
def rSl (K : PySem.W.Frag) : V → Option Int → Option Int → Hp → VK → Prop := fun x lo hi H Q => rSlL K x lo hi H Q ∨ rSlA K x lo hi H Q
variable {lo hi : Option Expr} {tl th : TO} {sl sh : So}
theorem ae_slice (he : AE K X E e te se) (hl : AO K X E lo tl sl) (hh : AO K X E hi th sh) : AE K X E (.Subscript e (.Slice lo hi none p2) pos) (tSl (rSl K) te tl th) (sSlice se sl sh) := by
  have e0 := he.hK
  subst e0
  refine ⟨rfl, pe_slice (sl_list.or sl_tupA) he.pe hl.pe hh.pe, fun ρ ws G H as σ Q W S P => he.ev ρ ws G H as σ _ W S (Post.bind P fun x ws1 v G1 H1 as1 r1 W1 rx P1 => ?_)⟩
  refine hl.ev ρ ws1 G1 H1 as1 σ _ W1 (S.up r1.pre r1.up) (Post.bind P1 fun l ws2 l' G2 H2 as2 r2 W2 rl P2 => ?_)
  cases rl
  refine hh.ev ρ ws2 G2 H2 as2 σ _ W2 ((S.up r1.pre r1.up).up r2.pre r2.up) (Post.bind P2 fun u ws3 u' G3 H3 as3 r3 W3 ru P3 => ?_)
  cases ru
  have rx3 := (rx.up r2.pre r2.up).up r3.pre r3.up
  split at P3
  · rename_i m
    have rx4 := rx3
    simp only [Rep] at rx3
    obtain ⟨a, vs, e1, e2, e3⟩ := rx3
    refine .inr ⟨a, vs, e1, .inl (.inl (W3.le _ _ e2)), fun hw => ?_, fun _ p hp => ?_⟩
    · refine Post.done P3 W3 ?_
      simp only [Rep]
      refine ⟨a, vs, rfl, e2, ?_⟩
      have : cutG m l u = m := by
        unfold cutG
        rw [e3.len, hw.1, hw.2, List.drop_zero, Nat.sub_zero, ← e3.len]
        exact List.take_length
      rw [this]
      exact e3
    · refine P3 _ _ _ as3 (Rch.new W3.le hp) (W3.new hp) ?_
      simp only [Rep]
      exact ⟨p, _, rfl, upd_same, (e3.cut l u).up (List.prefix_refl _) (Rch.new (as := as3) W3.le hp).up⟩
  · rename_i m
    simp only [Rep] at rx3
    obtain ⟨a, vs, e1, e2, e3⟩ := rx3
    refine .inl ⟨a, vs, e1, sqL_up W3.le e2, fun p hp => P3 _ _ _ as3 (Rch.new W3.le hp) (W3.new hp) ?_⟩
    simp only [Rep]
    exact ⟨p, _, rfl, upd_same, (e3.cut l u).up (List.prefix_refl _) (Rch.new (as := as3) W3.le hp).up⟩
  · split at P3
    · rename_i m hm
      obtain ⟨a, vs, e1, e2, e3⟩ := lst_rep W3 hm rx3
      refine .inl ⟨a, vs, e1, .inl (.inl e2), fun p hp => P3 _ _ _ as3 (Rch.new W3.le hp) (W3.new hp) ?_⟩
      simp only [Rep]
      exact ⟨p, _, rfl, upd_same, (e3.cut l u).up (List.prefix_refl _) (Rch.new (as := as3) W3.le hp).up⟩
    · exact False.elim P3
end
/-! ### f-strings -/
def sFmt (a : Se) : Se := fun ρ ws => (a ρ ws).bind fun x ws1 => match x with
  | .str y => if y.length ≤ 100000 then .ok (.str y) ws1 else .bad
  | .int i => if i.natAbs.log2 < 1920 then .ok (.str (toString i)) ws1 else .bad
  | _ => .bad
/-- the parts of an f-string -/
inductive AJ (K : PySem.W.Frag) (X : Cx) (E : XK) : List Expr → List TE → List Se → Prop where
  | nil : AJ K X E [] [] []
  | cons {e : Expr} {t : TE} {s : Se} {es : List Expr} {ts : List TE} {ss : List Se} (h : AE K X E e t s) (r : AJ K X E es ts ss) : AJ K X E (e :: es) (t :: ts) (s :: ss)
def sJs : List Se → Str → List (Option D) → List Ce → R D
  | [], acc, _, ws => .ok (.str acc) ws
  | s :: ss, acc, ρ, ws => (s ρ ws).bind fun x ws1 => match x with
    | .str y => if (acc ++ y).length ≤ 100000 then sJs ss (acc ++ y) ρ ws1 else .bad
    | _ => .bad
def sJoined (ss : List Se) : Se := fun ρ ws => sJs ss Str.empty ρ ws
section
variable {K : PySem.W.Frag} {X : Cx} {E : XK} {e : Expr} {te : TE} {se : Se} {pos : Pos}
theorem ae_fmt (h : AE K X E e te se) : AE K X E (.FormattedValue e (-1) none pos) (tFmt te) (sFmt se) := ⟨h.hK, pe_fmt h.pe, fun ρ ws G H as σ Q W S P => h.ev ρ ws G H as σ _ W S (Post.bind P fun d ws1 v G1 H1 as1 r1 W1 rx P1 => by
  cases d with
  | str y =>
    simp only at P1
    split at P1
    · rename_i hy
      simp only [Rep] at rx
      exact .inl ⟨y, rx, small5 hy, Post.done P1 W1 (by simp [Rep])⟩
    · exact False.elim P1
  | int i =>
    simp only at P1
    split at P1
    · rename_i hy
      simp only [Rep] at rx
      exact .inr ⟨i, rx, hy, Post.done P1 W1 (by simp [Rep])⟩
    · exact False.elim P1
  | _ => exact False.elim P1)⟩
theorem AJ.pj {es : List Expr} {ts : List TE} {ss : List Se} (h : AJ K X E es ts ss) : PJ X es ts := by
  induction h with
  | nil => exact .nil
  | cons h r ih => exact .cons h.pe ih
theorem AJ.ev {es : List Expr} {ts : List TE} {ss : List Se} (h : AJ K X E es ts ss) : ∀ (acc : Str) ρ ws G H as σ (Q : VK), Wd K G H as ws → SRep K as G ρ σ → Post K E (Rep K) G H as (sJs ss acc ρ ws) Q → tJs ts acc σ H fun out H1 => Q (.str out) H1 := by
  induction h with
  | nil => exact fun acc ρ ws G H as σ Q W S P => Post.done P W (by simp [Rep])
  | cons h r ih =>
    intro acc ρ ws G H as σ Q W S P
    refine h.ev ρ ws G H as σ _ W S (Post.bind P fun d ws1 v G1 H1 as1 r1 W1 rx P1 => ?_)
    cases d with
    | str y =>
      simp only at P1
      split at P1
      · rename_i hy
        simp only [Rep] at rx
        exact ⟨y, rx, small5 hy, ih (acc ++ y) ρ ws1 G1 H1 as1 σ Q W1 (S.up r1.pre r1.up) P1⟩
      · exact False.elim P1
    | _ => exact False.elim P1
theorem ae_joined {v1 v2 : Expr} {rest : List Expr} {ts : List TE} {ss : List Se} (hK : X.K = K) (h : AJ K X E (v1 :: v2 :: rest) ts ss) : AE K X E (.JoinedStr (v1 :: v2 :: rest) pos) (fun σ H Q => tJs ts Str.empty σ H fun out H1 => Q (.str out) H1) (sJoined ss) :=
  ⟨hK, pe_joined h.pj, fun ρ ws G H as σ Q W S P => h.ev Str.empty ρ ws G H as σ Q W S P⟩
end
/-! ### items stored -/
def tgItem (o i : Se) : Tg := fun d ρ ws => (o ρ ws).bind fun x ws1 => (i ρ ws1).bind fun k ws2 => match x, k with
  | .cell n, .int j => (match ws2[n]? with
    | some (.lst l) => (match ixN l.length j with
      | some m => .ok ρ (ws2.set n (.lst (l.set m d)))
      | none => .bad)
    | _ => .bad)
  | _, _ => .bad
section
variable {K : PySem.W.Frag} {X : Cx} {E : XK} {o i : Expr} {to ti : TE} {so si : Se} {pos : Pos}
theorem ag_item (ho : AE K X E o to so) (hi : AE K X E i ti si) (ha : ∀ v, assign (.Subscript o i pos) X.env v = (do
      let ov ← holding [v] (eval o X.env)
      let iv ← holding [v, ov] (eval i X.env)
      standAt pos
      holding [v, ov, iv] (setItem ov iv v)
      release [v, ov, iv] []) := by intro _; rfl) : AG K X E (.Subscript o i pos) (gSub to ti rSetL) [] (tgItem so si) := by
  refine ⟨ho.hK, pg_sub ho.pe hi.pe set_list ha, fun d v ρ ws G H as σ Q W S r P => ho.ev ρ ws G H as σ _ W S (Post.bind P fun x ws1 u G1 H1 as1 r1 W1 rx P1 => ?_)⟩
  have S1 := S.up r1.pre r1.up
  refine hi.ev ρ ws1 G1 H1 as1 σ _ W1 S1 (Post.bind P1 fun k ws2 w G2 H2 as2 r2 W2 rk P2 => ?_)
  split at P2
  · rename_i n j
    split at P2
    · rename_i l q
      split at P2
      · rename_i m hm
        obtain ⟨a, vs, e1, e2, e3, e4⟩ := cell_lst W2 q (rx.up r2.pre r2.up)
        simp only [Rep] at rk
        refine ⟨a, vs, j, m, e1, rk, e3, by rw [← e4.len]; exact hm, ?_⟩
        exact P2 σ G2 _ as2 (Rch.put (List.mem_of_getElem? e2)) (W2.put e2 q (fun z => by cases z) ⟨_, rfl, e4.setR (((r.up r1.pre r1.up).up r2.pre r2.up))⟩) ⟨S1.up r2.pre r2.up, Chg.refl⟩
      · exact False.elim P2
    · exact False.elim P2
  · exact False.elim P2
end
end RL
set_option Elab.async false
set_option linter.all false
set_option maxRecDepth 100000
/-! RL8: == by an own __eq__, either answer; tuples of instances. -/
namespace RL
open PySem PySem.Spec PyProof.Rows L2
section
open PySem.SeqAt AutoSeq1 MeetsSeq MeetsSeq2 MeetsSeq3 SeqRoads2
/-- == of two tuples whose items answer e, while Iv holds -/
theorem tuple_eqM {prog : Program} {w : World} {A : Around} {R : Result → Shared → Prop} (l b : Addr) (xs ys : Array Value) (n n2 : Nat) (dd dd2 : Option Addr) (sl sl2 : Array (Option Value)) (e : Nat → Bool) (Iv : Shared → Prop)
    (turn : ∀ i (h1 : i < xs.size) (h2 : i < ys.size) s, Iv s → wpAny (model prog w) A.in1 (eqBool xs[i] ys[i]) (fun r s' => r = e i ∧ Iv s') (fun er s' => R (.error er) s') s)
    (done : ∀ s, Iv s → R (.ok (.ret (.bool ((List.range (min xs.size ys.size)).all e && xs.size == ys.size)))) s) {s : Shared}
    (hl1 : s.heap.get? l = some { cls := .type "tuple", dict := dd, data := .seq xs n, slots := sl }) (hb1 : s.heap.get? b = some { cls := .type "tuple", dict := dd2, data := .seq ys n2, slots := sl2 }) (h : Iv s) :
    wpAny (model prog w) A.in1 (Builtin.«tuple.__eq__» ⟨[.ref l, .ref b], []⟩) (GQ.FinOf prog w A R) (fun er s' => R (.error er) s') s := by
  have f2 := AutoSeq1.sub_tuple_tuple
  have hZ : (xs.toList.zip ys.toList).length = min xs.size ys.size := by simp
  have h0 := h
  obtain ⟨hp, g, d, tk, os⟩ := s
  wp_walk using wpAny_loadPart' hl1, wpAny_loadPart' hb1, wpAny_forIn_list _ (fun rest bb s' => bb.1 = none ∧ Iv s' ∧ ∃ i, rest = (xs.toList.zip ys.toList).drop i ∧
    (((List.range (min xs.size ys.size)).drop i).all e && xs.size == ys.size) = ((List.range (min xs.size ys.size)).all e && xs.size == ys.size)) _
  case turn =>
    rintro ⟨y, x⟩ rest bb s' ⟨hb', hI, i, hz, hR⟩
    have hlt : i < (xs.toList.zip ys.toList).length := by
      rcases Nat.lt_or_ge i (xs.toList.zip ys.toList).length with q | q
      · exact q
      · rw [List.drop_of_length_le q] at hz
        cases hz
    have hm : i < min xs.size ys.size := hZ ▸ hlt
    have h1 : i < xs.size := by omega
    have h2 : i < ys.size := by omega
    rw [List.drop_eq_getElem_cons hlt] at hz
    injection hz with hyx hrest
    have hy : y = xs[i] := by have := congrArg Prod.fst hyx; simpa using this
    have hx : x = ys[i] := by have := congrArg Prod.snd hyx; simpa using this
    subst hy hx
    have hd : (List.range (min xs.size ys.size)).drop i = i :: (List.range (min xs.size ys.size)).drop (i + 1) := by simp [List.drop_eq_getElem_cons, hm]
    rw [hd, List.all_cons] at hR
    refine wpAny_bind (wpAny_mono (turn i h1 h2 s' hI) (fun r s2 q2 => ?_) fun _ _ x => x)
    obtain ⟨hr, q2⟩ := q2
    subst hr
    cases hy : e i with
    | true =>
      rw [hy] at hR
      wp_walk
      exact ⟨rfl, q2, i + 1, hrest, by simpa using hR⟩
    | false =>
      rw [hy] at hR
      wp_walk
      have := done s2 q2
      rw [← hR] at this
      simpa using this
  case fin =>
    rintro ⟨b1, b2⟩ s' ⟨hb', hI, i, hz, hR⟩
    simp only at hb'
    subst hb'
    have hge : min xs.size ys.size ≤ i := by
      rcases Nat.lt_or_ge i (xs.toList.zip ys.toList).length with q | q
      · rw [List.drop_eq_getElem_cons q] at hz
        cases hz
      · exact hZ ▸ q
    rw [List.drop_of_length_le (by simpa using hge)] at hR
    have := done s' hI
    rw [← hR] at this
    wp_walk
    simpa [Builtin.Tuple.tupleCompareSizes] using this
  case h =>
    exact ⟨rfl, h0, 0, rfl, by simp⟩
end
/-! ### answers of == -/
abbrev Qs := D → D → List Ce → Option Bool
def EqM (X : Cx) (n : Nat) (q : Qs) : Prop := ∀ A pins s σ H G as ws dx dy x y u v b, Sub X n A → Inv X pins σ H s → RelV x u → RelV y v → Wd X.K G H as ws → Rep X.K as G dx x → Rep X.K as G dy y → q dx dy ws = some b →
  wpAny (model X.prog X.w) A (eqBool u v) (fun r s' => r = b ∧ ∃ G' H' as', Inv X pins σ H' s' ∧ Rch G H as G' H' as' ∧ Wd X.K G' H' as' ws) X.xe s
def RcM (X : Cx) (n : Nat) (op : CmpOp) (q : Qs) : Prop := ∀ A pins s σ H G as ws dx dy x y u v b, Sub X n A → Inv X pins σ H s → RelV x u → RelV y v → Wd X.K G H as ws → Rep X.K as G dx x → Rep X.K as G dy y → q dx dy ws = some b →
  wpAny (model X.prog X.w) A (richCompare op u v) (fun r s' => r = .bool b ∧ ∃ G' H' as', Inv X pins σ H' s' ∧ Rch G H as G' H' as' ∧ Wd X.K G' H' as' ws) X.xe s
/-- what an own __eq__ tells of an instance of c and one of c2 -/
def qIns (c c2 : Str) (m : Mf) : Qs := fun dx dy ws => if (insOf ws c dx).isSome = true ∧ (insOf ws c2 dy).isSome = true then (match m [dx, dy] ws with
    | .ok (.bl b) ws' => if ws' = ws then some b else none
    | _ => none)
  else none
theorem qIns_some {c c2 : Str} {m : Mf} {dx dy : D} {ws : List Ce} {b : Bool} (h : qIns c c2 m dx dy ws = some b) : (∃ k, insOf ws c dx = some k) ∧ (∃ k, insOf ws c2 dy = some k) ∧ m [dx, dy] ws = .ok (.bl b) ws := by
  unfold qIns at h
  split at h
  · rename_i hh
    refine ⟨Option.isSome_iff_exists.mp hh.1, Option.isSome_iff_exists.mp hh.2, ?_⟩
    split at h
    · rename_i b' ws' e
      split at h
      · rename_i hw
        cases h
        rw [e, hw]
      · cases h
    · cases h
  · cases h
section
variable {X : Cx} {n : Nat} {CX : CXT} {f : Addr} {fd : FuncData} {ps : List Str} {E : XK} {c c2 : Str} {m : Mf}
/-- the def __eq__ itself, called -/
theorem eq_run (F : FnOk X.prog X.w X.K X.mg X.base CX n f fd ps (spM X.K m)) (hb : Binds X.K fd ps []) (hx : Passes CX X E) {A : Around} {pins : List (Addr × Obj)} {s : Shared} {σ : L2.St} {H G : Hp} {as : List Addr} {ws : List Ce} {dx dy : D} {a b : Addr} {r : Bool}
    {Q : Value → Shared → Prop} (sb : Sub X n A) (I : Inv X pins σ H s) (W : Wd X.K G H as ws) (rx : Rep X.K as G dx (.ref a)) (ry : Rep X.K as G dy (.ref b)) (hm : m [dx, dy] ws = .ok (.bl r) ws)
    (k : ∀ s' G' H' as', Inv X pins σ H' s' → Rch G H as G' H' as' → Wd X.K G' H' as' ws → Q (.bool r) s') : wpAny (model X.prog X.w) A (call (.ref f) [.ref a, .ref b]) Q X.xe s := by
  have hsp : spM X.K m [.ref a, .ref b] H (fun v H' => v = .bl r ∧ ∃ G' as', Rch G H as G' H' as' ∧ Wd X.K G' H' as' ws) E := by
    refine ⟨G, as, ws, [dx, dy], W, Reps.cons rx (Reps.one ry), ?_⟩
    rw [hm]
    exact fun v G' H' as' q w rv => ⟨by simpa [Rep] using rv, G', as', q, w⟩
  have e0 : Env0 X.prog X.w X.K X.mg X.base A X.stack s H := by
    have e := I.env0
    exact ⟨by rw [sb.fr]; exact e.frames, e.mod, e.bs, e.bsz, e.funs, e.frf, e.hok, e.bare⟩
  have hl := F.len _ _ _ _ hsp
  have r2 : Vals [V.ref a, V.ref b] [Value.ref a, Value.ref b] := .cons rfl (.cons rfl .nil)
  refine wpAny_call (codeAny_mono (F.run A X.stack s H ⟨[.ref a, .ref b], []⟩ [.ref a, .ref b] [.ref a, .ref b] _ E sb.room e0 (by
    have := hb s [.ref a, .ref b] I.kIn (by simpa using hl)
    simpa using this) r2 hsp) fun r' s' hq => ?_)
  cases r' with
  | error e => exact hx pins σ H s e s' I hq
  | ok fl =>
    cases fl with
    | ret w =>
      obtain ⟨z, H', I', rz, ez, G', as', ex, w'⟩ := I.after hq
      subst ez
      obtain ⟨⟩ := rz
      exact k s' G' H' as' I' ex w'
    | next => exact False.elim hq
    | brk => exact False.elim hq
    | cont => exact False.elim hq
theorem ins_two {pins : List (Addr × Obj)} {s : Shared} {σ : L2.St} {H G : Hp} {as : List Addr} {ws : List Ce} {d : D} {x : V} {u : Value} {k : List Str × List D} (I : Inv X pins σ H s) (rx : RelV x u) (W : Wd X.K G H as ws) (r : Rep X.K as G d x) (e : insOf ws c d = some k) :
    ∃ a, x = .ref a ∧ u = .ref a ∧ ∃ ox od, PySem.W.InstAt s.heap a ox (He.ga X.K c) (some od) := by
  obtain ⟨ks, l⟩ := k
  obtain ⟨a, dx, vs, e1, e2, e3, e4⟩ := ins_rep W e r
  subst e1
  cases rx
  obtain ⟨mA, J, _⟩ := ins_get I.hok e2
  obtain ⟨od, J, _⟩ := J.look
  exact ⟨a, rfl, rfl, _, od, J⟩
theorem rcM_ins (F : FnOk X.prog X.w X.K X.mg X.base CX n f fd ps (spM X.K m)) (hs : PySem.W.findIn X.K (.ref (He.ga X.K c)) "__eq__" = some (some (.ref f))) (hf : PySem.W.isFn X.K (.ref f) = true) (hb : Binds X.K fd ps []) (hx : Passes CX X E)
    (hn : PySem.W.notFirst X.K (He.ga X.K c) (.ref (He.ga X.K c2)) = true) : RcM X n .Eq (qIns c c2 m) := by
  intro A pins s σ H G as ws dx dy x y u v b sb I rx ry W r1 r2 h
  obtain ⟨⟨k1, h1⟩, ⟨k2, h2⟩, h3⟩ := qIns_some h
  obtain ⟨a, e1, e2, oa, od, J⟩ := ins_two I rx W r1 h1
  obtain ⟨a', e1', e2', oa', od', J'⟩ := ins_two I ry W r2 h2
  subst e1 e2 e1' e2'
  obtain ⟨mm, hF⟩ := I.fr
  refine PySem.W.cmp_K (op := .Eq) (tb := .ref (He.ga X.K c2)) sb.room.units0 hF I.ok.mod.kin J J'.type hn hs hf ?_
  exact eq_run F hb hx sb I W r1 r2 h3 fun s' G' H' as' I' q w => ⟨rfl, G', H', as', I', q, w⟩
/-! != by the own __eq__ -/
theorem ifBound_objNe {M : Model} {A : Around} {E' : Value → Shared → Prop} {s : Shared} {K : PySem.W.Frag} {x C : Addr} {ox : Obj} {od : Option Obj} {args : List Value} {Q : Option Value → Shared → Prop} (Xk : K.In s.heap) (I : PySem.W.InstAt s.heap x ox C od)
    (hs : PySem.W.findIn K (.ref C) "__ne__" = some (some (.builtin "object.__ne__"))) (h : wpAny M A (call (.builtin "object.__ne__") (.ref x :: args)) (fun v => Q (some v)) E' s) : wpAny M A (callSpecialIfBound? (.ref x) "__ne__" args) Q E' s := by
  simp only [callSpecialIfBound?, bindSpecialIfBound?]
  refine wpAny_holding (wpAny_bind (wpAny_bind (wpAny_bind (I.type.here ((PySem.W.looks_findIn Xk hs).here ?_)))))
  refine wpAny_bind (wpAny_askSetting (wpAny_ite ?_))
  have last : wpAny M A (call (.builtin "object.__ne__") ([.ref x] ++ args) >>= fun v => pure (some v)) Q E' s := wpAny_bind (wpAny_mono h (fun v s' q => wpAny_pure q) fun _ _ q => q)
  split
  · exact wpAny_bind (wpAny_of_eq (PySem.F.cmp_object.ne.bind _) (wpAny_pure (by exact last)))
  · exact wpAny_tryCatch (wpAny_bind (wpAny_of_eq (PySem.F.cmp_object.ne.bind _) (wpAny_pure (by exact last))))
theorem cmp_one {prog : Program} {w : World} {A : Around} {E' : Value → Shared → Prop} {s : Shared} {K : PySem.W.Frag} {x C L : Addr} {h₀ : Heap} {mm : Str → Option Value} {ox : Obj} {od : Option Obj} {b tb : Value} {op : CmpOp} {Q : Value → Shared → Prop} (hu : A.units < cLine)
    (Fr' : Fr h₀ L s.heap mm) (X₀ : K.In h₀) (I : PySem.W.InstAt s.heap x ox C od) (hb : PySem.W.Looks (model prog w) s.heap (typeOf b) tb) (hn : PySem.W.notFirst K C tb = true)
    (one : wpAny (model prog w) A (tryCompare (.ref x) (cmpInfo op).2.1 b) (fun r s' => ∃ v, r = some v ∧ Q v s') E' s) : wpAny (model prog w) A (richCompare op (.ref x) b) Q E' s := by
  have Xk := X₀.keeps Fr'.keep
  unfold richCompare
  simp only [oneThing_ref]
  refine wpAny_holding (wpAny_bind (wpAny_cRoomFor hu (wpAny_bind (I.type.here (wpAny_bind (hb.here ?_))))))
  split
  · rename_i q
    have e : PySem.W.subIn K tb (.ref C) = some false := by
      rcases Bool.or_eq_true_iff.mp hn with z | z
      · rw [beq_iff_eq.mp z] at q
        simp at q
      · exact beq_iff_eq.mp z
    refine wpAny_bind ((PySem.W.looks_subIn Xk e).here ?_)
    simp only [Bool.false_eq_true, if_false]
    exact wpAny_bind (wpAny_mono one (fun r s' ⟨v, e1, hq⟩ => by subst e1; exact wpAny_pure hq) fun _ _ z => z)
  · refine wpAny_bind (wpAny_pure ?_)
    simp only [Bool.false_eq_true, if_false]
    exact wpAny_bind (wpAny_mono one (fun r s' ⟨v, e1, hq⟩ => by subst e1; exact wpAny_pure hq) fun _ _ z => z)
def qNot (q : Qs) : Qs := fun x y ws => (q x y ws).map (!·)
theorem rcM_ne (F : FnOk X.prog X.w X.K X.mg X.base CX n f fd ps (spM X.K m)) (hs : PySem.W.findIn X.K (.ref (He.ga X.K c)) "__eq__" = some (some (.ref f))) (hf : PySem.W.isFn X.K (.ref f) = true) (hb : Binds X.K fd ps []) (hx : Passes CX X E)
    (hn : PySem.W.notFirst X.K (He.ga X.K c) (.ref (He.ga X.K c2)) = true) (hne : PySem.W.findIn X.K (.ref (He.ga X.K c)) "__ne__" = some (some (.builtin "object.__ne__"))) (ho : PySem.W.mroIn X.K (He.ga X.K c) (.type "object") = some true) :
    RcM X (n + 1) .NotEq (qNot (qIns c c2 m)) := by
  intro A pins s σ H G as ws dx dy x y u v b sb I rx ry W r1 r2 h
  obtain ⟨b0, h0, hb0⟩ := Option.map_eq_some_iff.mp h
  obtain ⟨⟨k1, h1⟩, ⟨k2, h2⟩, h3⟩ := qIns_some h0
  obtain ⟨a, e1, e2, oa, od, J⟩ := ins_two I rx W r1 h1
  obtain ⟨a', e1', e2', oa', od', J'⟩ := ins_two I ry W r2 h2
  subst e1 e2 e1' e2' hb0
  obtain ⟨mm, hF⟩ := I.fr
  refine cmp_one (op := .NotEq) (tb := .ref (He.ga X.K c2)) sb.room.units0 hF I.ok.mod.kin J J'.type hn ?_
  unfold tryCompare
  refine wpAny_bind (ifBound_objNe I.kIn J hne ?_)
  refine wpAny_call (codeAny_call_builtin PySem.F.cmp_object.ne.plain PySem.F.cmpEntry_ne (PySem.W.check_slot PySem.F.cmpKind_ne PySem.F.cmpSplit_ne (J.type.andThen (PySem.W.looks_mroIn I.kIn ho)) (PySem.F.cmpArgs_ne _ _) ?_))
  have eqc : ∀ {Q : Option Value → Shared → Prop}, (∀ s' G' H' as', Inv X pins σ H' s' → Rch G H as G' H' as' → Wd X.K G' H' as' ws → Q (some (.bool b0)) s') → wpAny (model X.prog X.w) A.in1 (callSpecialIfBound? (.ref a) "__eq__" [.ref a']) Q
      (fun er s' => wants (fun v s' => v ≠ .notImplemented ∧ v = .bool (!b0) ∧ ∃ G' H' as', Inv X pins σ H' s' ∧ Rch G H as G' H' as' ∧ Wd X.K G' H' as' ws) X.xe (.error er) s') s := fun k =>
    PySem.W.ifBound_K I.kIn J hs hf (eq_run F hb hx sb.in1 I W r1 r2 h3 k)
  unfold Builtin.«object.__ne__»
  repeat (first | with_reducible refine wpAny_cRoomFor sb.in1.room.units0 ?_ | with_reducible refine wpAny_bind (eqc fun s' G' H' as' I' q w => ?_) | wp_step)
  exact ⟨_, rfl, rfl, G', H', as', I', q, w⟩
end
/-! data has one shape -/
section
variable {K : PySem.W.Frag} {as : List Addr} {G : Hp}
mutual
theorem Rep.uniq : ∀ {d e : D} {v : V}, (toPy0 d).isSome = true → (toPy0 e).isSome = true → Rep K as G d v → Rep K as G e v → d = e
  | .non, e, v, h1, h2, r1, r2 => by
    cases e <;> simp_all [toPy0, Rep]
  | .bl b, e, v, h1, h2, r1, r2 => by
    cases e <;> simp_all [toPy0, Rep]
  | .int b, e, v, h1, h2, r1, r2 => by
    cases e <;> simp_all [toPy0, Rep]
  | .str b, e, v, h1, h2, r1, r2 => by
    cases e <;> simp_all [toPy0, Rep]
  | .tup l, e, v, h1, h2, r1, r2 => by
    cases e with
    | tup m =>
      simp only [Rep] at r1 r2
      obtain ⟨a, vs, e1, e2, e3⟩ := r1
      obtain ⟨a', vs', f1, f2, f3⟩ := r2
      rw [e1] at f1
      cases f1
      rw [e2] at f2
      cases f2
      rw [Reps.uniq (by simpa [toPy0] using h1) (by simpa [toPy0] using h2) e3 f3]
    | lst m =>
      simp only [Rep] at r1 r2
      obtain ⟨a, vs, e1, e2, e3⟩ := r1
      obtain ⟨a', vs', f1, f2, f3⟩ := r2
      rw [e1] at f1
      cases f1
      rw [e2] at f2
      cases f2
    | _ => simp_all [toPy0, Rep] <;> (obtain ⟨a, e1, _⟩ := r1; first | (rw [e1] at r2; cases r2) | (cases e1))
  | .lst l, e, v, h1, h2, r1, r2 => by
    cases e with
    | lst m =>
      simp only [Rep] at r1 r2
      obtain ⟨a, vs, e1, e2, e3⟩ := r1
      obtain ⟨a', vs', f1, f2, f3⟩ := r2
      rw [e1] at f1
      cases f1
      rw [e2] at f2
      cases f2
      rw [Reps.uniq (by simpa [toPy0] using h1) (by simpa [toPy0] using h2) e3 f3]
    | tup m =>
      simp only [Rep] at r1 r2
      obtain ⟨a, vs, e1, e2, e3⟩ := r1
      obtain ⟨a', vs', f1, f2, f3⟩ := r2
      rw [e1] at f1
      cases f1
      rw [e2] at f2
      cases f2
    | _ => simp_all [toPy0, Rep] <;> (obtain ⟨a, e1, _⟩ := r1; first | (rw [e1] at r2; cases r2) | (cases e1))
  | .ins _ _ _, e, v, h1, h2, r1, r2 => by simp [toPy0] at h1
  | .cell _, e, v, h1, h2, r1, r2 => by simp [toPy0] at h1
  | .cls _, e, v, h1, h2, r1, r2 => by simp [toPy0] at h1
  | .fz _, e, v, h1, h2, r1, r2 => by simp [toPy0] at h1
  | .exc _ _ _, e, v, h1, h2, r1, r2 => by simp [toPy0] at h1
  | .dct _ _, e, v, h1, h2, r1, r2 => by simp [toPy0] at h1
  | .dcT _ _, e, v, h1, h2, r1, r2 => by simp [toPy0] at h1
theorem Reps.uniq : ∀ {ds es : List D} {vs : List V}, (toPys0 ds).isSome = true → (toPys0 es).isSome = true → Reps K as G ds vs → Reps K as G es vs → ds = es
  | [], es, vs, h1, h2, r1, r2 => by
    rw [r1.unnil] at r2
    have := r2.len
    cases es with
    | nil => rfl
    | cons _ _ => simp at this
  | d :: ds, es, vs, h1, h2, r1, r2 => by
    obtain ⟨v, us, e1, e2, e3⟩ := r1.uncons
    subst e1
    cases es with
    | nil =>
      have := r2.unnil
      cases this
    | cons e es =>
      obtain ⟨v', us', f1, f2, f3⟩ := r2.uncons
      cases f1
      have g : ∀ {a : D} {as : List D}, (toPys0 (a :: as)).isSome = true → (toPy0 a).isSome = true ∧ (toPys0 as).isSome = true := by
        intro a as q
        cases h : toPy0 a with
        | none => simp [toPys0, h] at q
        | some p =>
          cases h' : toPys0 as with
          | none => simp [toPys0, h, h'] at q
          | some p => simp
      rw [Rep.uniq (g h1).1 (g h2).1 e2 f2, Reps.uniq (g h1).2 (g h2).2 e3 f3]
end
theorem zip_inj : ∀ {ks ms : List Str} {vs us : List V}, ks.length = vs.length → ms.length = us.length → ks.zip vs = ms.zip us → ks = ms ∧ vs = us
  | [], [], [], [], _, _, _ => ⟨rfl, rfl⟩
  | [], [], _ :: _, _, h, _, _ => by cases h
  | [], [], [], _ :: _, _, h, _ => by cases h
  | [], m :: ms, [], [], _, h, _ => by cases h
  | [], m :: ms, [], u :: us, _, _, h => by cases h
  | [], m :: ms, _ :: _, _, h, _, _ => by cases h
  | k :: ks, _, [], _, h, _, _ => by cases h
  | k :: ks, [], v :: vs, [], _, _, h => by cases h
  | k :: ks, [], v :: vs, _ :: _, _, h, _ => by cases h
  | k :: ks, m :: ms, v :: vs, [], _, h, _ => by cases h
  | k :: ks, m :: ms, v :: vs, u :: us, h1, h2, h => by
    have h' : ((k, v) :: ks.zip vs) = ((m, u) :: ms.zip us) := h
    injection h' with a b
    injection a with a1 a2
    obtain ⟨q1, q2⟩ := zip_inj (by simpa using h1) (by simpa using h2) b
    exact ⟨by rw [a1, q1], by rw [a2, q2]⟩
end
/-- as q tells, of two plain instances of c; what is one is equal to itself -/
def qOne (c : Str) (q : Qs) : Qs := fun dx dy ws => match dx, dy with
  | .ins c1 ks l, .ins c2 ms k => if c1 = c ∧ c2 = c ∧ (toPys0 l).isSome = true ∧ (toPys0 k).isSome = true then (q dx dy ws).bind fun b => if ks = ms ∧ l = k ∧ b = false then none else some b else none
  | _, _ => none
/-- the items of two tuples -/
def qAll (q : Qs) (ws : List Ce) : List D → List D → Option Bool
  | [], [] => some true
  | [], _ :: _ => some false
  | _ :: _, [] => some false
  | a :: l, b :: m => (q a b ws).bind fun r => (qAll q ws l m).map fun z => r && z
def qTup (q : Qs) : Qs := fun dx dy ws => match dx, dy with
  | .tup l, .tup m => qAll q ws l m
  | _, _ => none
theorem qAll_some {q : Qs} {ws : List Ce} : ∀ {l m : List D} {b : Bool}, qAll q ws l m = some b → (∀ (i : Nat) (x y : D), l[i]? = some x → m[i]? = some y → q x y ws = some ((q x y ws).getD false)) ∧
    b = ((List.range (min l.length m.length)).all (fun i => (q (l.getD i .non) (m.getD i .non) ws).getD false) && l.length == m.length)
  | [], [], b, h => by
    cases h
    exact ⟨fun i x y hx => by simp at hx, rfl⟩
  | [], _ :: _, b, h => by
    cases h
    refine ⟨fun i x y hx => by simp at hx, ?_⟩
    simp
  | _ :: _, [], b, h => by
    cases h
    refine ⟨fun i x y _ hx => by simp at hx, ?_⟩
    simp
  | a :: l, c :: m, b, h => by
    simp only [qAll, Option.bind_eq_some_iff, Option.map_eq_some_iff] at h
    obtain ⟨r, h1, z, h2, h3⟩ := h
    obtain ⟨k1, k2⟩ := qAll_some h2
    refine ⟨fun i x y hx hy => ?_, ?_⟩
    · cases i with
      | zero =>
        simp at hx hy
        subst hx hy
        rw [h1] <;> rfl
      | succ i =>
        simp at hx hy
        exact k1 i x y hx hy
    · rw [← h3, k2]
      have e : min (a :: l).length (c :: m).length = min l.length m.length + 1 := by simp
      rw [e, List.range_succ_eq_map, List.all_cons, List.all_map]
      have e2 : ((a :: l).length == (c :: m).length) = (l.length == m.length) := by simp
      rw [e2]
      simp only [List.getD_cons_zero, h1, Option.getD_some, Bool.and_assoc]
      rfl
section
variable {X : Cx} {n : Nat} {q : Qs} {c : Str}
theorem eqM_one (h : RcM X n .Eq q) : EqM X n (qOne c q) := by
  intro A pins s σ H G as ws dx dy x y u v b sb I rx ry W r1 r2 e
  unfold qOne at e
  split at e
  · rename_i c1 ks l c2 ms k
    split at e
    · rename_i hh
      obtain ⟨g1, g2, g3, g4⟩ := hh
      subst g1 g2
      obtain ⟨b0, h1, h2⟩ := Option.bind_eq_some_iff.mp e
      have r1' := r1
      have r2' := r2
      simp only [Rep] at r1' r2'
      obtain ⟨a, da, vs, e1, e2, e3, e4⟩ := r1'
      obtain ⟨a', da', us, f1, f2, f3, f4⟩ := r2'
      subst e1 f1
      cases rx
      cases ry
      have hb : b0 = b := by
        split at h2
        · cases h2
        · exact Option.some.inj h2
      subst hb
      by_cases hab : a = a'
      · subst hab
        rw [e2] at f2
        injection f2 with f2
        injection f2 with _ _ f2
        obtain ⟨z1, z2⟩ := zip_inj (by rw [e3, e4.len]) (by rw [f3, f4.len]) f2
        subst z2
        have z3 := Reps.uniq g3 g4 e4 f4
        have hb : b0 = true := by
          cases b0 with
          | true => rfl
          | false =>
            rw [if_pos ⟨z1, z3, rfl⟩] at h2
            cases h2
        subst hb
        exact SeqAt.EqAt.same (A := A) (s := s) (.ref a) X.prog X.w X.xe _ ⟨rfl, G, H, as, I, Rch.refl, W⟩
      · refine GQ.eqBool_refG hab (wpAny_mono (h A pins s σ H G as ws _ _ (.ref a) (.ref a') _ _ b0 sb I rfl rfl W r1 r2 h1) (fun r s' z => ?_) fun _ _ z => z)
        obtain ⟨z1, z2⟩ := z
        exact ⟨b0, z1, rfl, z2⟩
    · cases e
  · cases e
theorem rcM_tup (h : EqM X n q) : RcM X (n + 1) .Eq (qTup q) := by
  intro A pins s σ H G as ws dx dy x y u v b sb I rx ry W r1 r2 e
  unfold qTup at e
  split at e
  · rename_i l m
    obtain ⟨k1, k2⟩ := qAll_some e
    simp only [Rep] at r1 r2
    obtain ⟨a, vs, e1, e2, e3⟩ := r1
    obtain ⟨a', us, f1, f2, f3⟩ := r2
    subst e1 f1
    cases rx
    cases ry
    obtain ⟨its, t1, t2, t3⟩ := I.tuple (.inl (.inl (W.le _ _ e2)))
    obtain ⟨its2, t1', t2', t3'⟩ := I.tuple (.inl (.inl (W.le _ _ f2)))
    have n1 : its.toArray.size = l.length := by rw [List.size_toArray, ← t1.length, e3.len]
    have n2 : its2.toArray.size = m.length := by rw [List.size_toArray, ← t1'.length, f3.len]
    obtain ⟨⟨cls, dd, data, sl⟩, ho, hc, nn, hd⟩ := id t2
    obtain ⟨⟨cls2, dd2, data2, sl2⟩, ho2, hc2, nn2, hd2⟩ := id t2'
    simp only at hc hd hc2 hd2
    subst hc hd hc2 hd2
    refine wpAny_richCompare_same_room (op := .Eq) ⟨_, ho, rfl⟩ ⟨_, ho2, rfl⟩ F.slot_tuple_eq (GQ.call_here F.slot_tuple_eq ⟨_, ho, rfl⟩ F.entry_tuple_eq (F.args_tuple_eq_2 _ _) ?_) sb.room.units0
    refine tuple_eqM (R := wants (fun v s' => v ≠ .notImplemented ∧ v = .bool b ∧ ∃ G' H' as', Inv X pins σ H' s' ∧ Rch G H as G' H' as' ∧ Wd X.K G' H' as' ws) X.xe) a a' its.toArray its2.toArray nn nn2 dd dd2 sl sl2 (fun i => (q (l.getD i .non) (m.getD i .non) ws).getD false)
      (fun s' => ∃ G' H' as', Inv X pins σ H' s' ∧ Rch G H as G' H' as' ∧ Wd X.K G' H' as' ws) (fun i h1 h2 s' hI => ?_) (fun s' hI => ?_) ho ho2 ⟨G, H, as, I, Rch.refl, W⟩
    · obtain ⟨G1, H1, as1, I1, c1, W1⟩ := hI
      have hi1 : i < l.length := by omega
      have hi2 : i < m.length := by omega
      obtain ⟨x1, x2, x3⟩ := e3.at hi1
      obtain ⟨y1, y2, y3⟩ := f3.at hi2
      obtain ⟨w1, w2, w3⟩ := t1.get x2
      obtain ⟨z1, z2, z3⟩ := t1'.get y2
      have q1 : its.toArray[i] = w1 := by
        have := List.getElem?_eq_some_iff.mp w2
        simpa using this.2
      have q2 : its2.toArray[i] = z1 := by
        have := List.getElem?_eq_some_iff.mp z2
        simpa using this.2
      rw [q1, q2]
      have hq := k1 i l[i] m[i] (List.getElem?_eq_getElem hi1) (List.getElem?_eq_getElem hi2)
      have hl : l.getD i .non = l[i] := by simp [List.getD, hi1]
      have hm : m.getD i .non = m[i] := by simp [List.getD, hi2]
      refine wpAny_mono (h A.in1 pins s' σ H1 G1 as1 ws _ _ _ _ _ _ _ sb.in1 I1 w3 z3 W1 (x3.up c1.pre c1.up) (y3.up c1.pre c1.up) hq) (fun r s2 z => ?_) fun _ _ z => z
      obtain ⟨z1, G2, H2, as2, I2, c2, W2⟩ := z
      exact ⟨by rw [z1, hl, hm], G2, H2, as2, I2, c1.trans c2, W2⟩
    · refine ⟨(fun z => nomatch z), ?_, hI⟩
      rw [k2, n1, n2]
  · cases e
/-- the operator -/
def rQ (K : PySem.W.Frag) (q : Qs) : R2 := fun x y H Q => ∃ G as ws dx dy b, Wd K G H as ws ∧ Rep K as G dx x ∧ Rep K as G dy y ∧ q dx dy ws = some b ∧ ∀ G' H' as', Rch G H as G' H' as' → Wd K G' H' as' ws → Q (.bl b) H'
theorem op_q {op : CmpOp} (h : RcM X n op q) (hr : Room n X.A) (ho : ∀ a b, compareOp op a b = richCompare op a b) : OpR X (compareOp op) (rQ X.K q) := by
  intro pins s σ H x y v u Q I rx ry hq
  obtain ⟨G, as, ws, dx, dy, b, W, r1, r2, e, k⟩ := hq
  rw [ho]
  refine wpAny_mono (h X.A pins s σ H G as ws dx dy x y v u b ⟨hr, rfl⟩ I rx ry W r1 r2 e) (fun r s' z => ?_) fun _ _ z => z
  obtain ⟨z1, G', H', as', I', c', W'⟩ := z
  subst z1
  exact ⟨.bl b, H', I', rfl, k G' H' as' c' W'⟩
def fQ (q : Qs) : List Ce → D → D → Option D := fun ws x y => (q x y ws).map .bl
theorem od_q {K : PySem.W.Frag} : OpD K (rQ K q) (fQ q) := fun ws G H as x y d e z Q W rx ry ef k => by
  obtain ⟨b, h1, h2⟩ := Option.map_eq_some_iff.mp ef
  subst h2
  exact ⟨G, as, ws, d, e, b, W, rx, ry, h1, fun G' H' as' r w => k _ G' H' as' r w (by simp [Rep])⟩
end
end RL
set_option Elab.async false
set_option linter.all false
set_option maxRecDepth 100000
/-! RL9: operators, calls and subscripts that an own class answers; isinstance; new instances; properties; classmethods. -/
namespace RL
open PySem PySem.Spec PyProof.Rows L2
open PySem.W PySem.Calls in
/-- x op b by x's method, b of a built-in type -/
theorem bin_own {prog : Program} {w : World} {A : Around} {E' : Value → Shared → Prop} {s : Shared} {K : Frag} {x C L f : Addr} {h₀ : Heap} {mm : Str → Option Value} {ox : Obj} {od : Option Obj} {T : String} {op : Operator} {b : Value} {fo ro rc : Option Value} {Q : Value → Shared → Prop}
    (Fr' : Fr h₀ L s.heap mm) (X₀ : K.In h₀) (I : InstAt s.heap x ox C od) (tb : Looks (model prog w) s.heap (typeOf b) (.type T)) (sf : selfFirst K C = true) (at1 : findIn K (.ref C) (PySem.dunder op.info.2) = some (some (.ref f))) (fn : isFn K (.ref f) = true)
    (at2 : findIn K (.ref C) (dunderR op.info.2) = some rc) (hp : rc = none ∨ ∃ g : Addr, rc = some (.ref g)) (t1 : findIn K (.type T) (PySem.dunder op.info.2) = some fo) (t2 : findIn K (.type T) (dunderR op.info.2) = some ro) (sub : subIn K (.type T) (.ref C) = some false)
    (h : wpAny (model prog w) A (call (.ref f) [.ref x, b]) (PySem.W.CmpBack Q) E' s) : wpAny (model prog w) A (binaryOp op (.ref x) b) Q E' s := by
  have Xk := X₀.keeps Fr'.keep
  obtain ⟨cd, rest, c1, c2⟩ := ksp_first sf
  rcases hi : op.info with ⟨sym, nm⟩
  rw [hi] at at1 at2 t1 t2
  dsimp only at at1 at2 t1 t2
  have one := ksp_try Xk I at1 fn h
  obtain ⟨hh, g, d, tt, os⟩ := s
  have K1 : Looks (model prog w) hh (typeOf (.ref x)) (.ref C) := I.type
  have K2 : Looks (model prog w) hh (typeOf b) (.type T) := tb
  have K3 := fills_K (M := model prog w) Xk c1 c2 at1
  have K4 := ksp_fillsT (M := model prog w) Xk t1 t2
  have K5 : Looks (model prog w) hh (isSubtype (.type T) (.ref C)) false := looks_subIn Xk sub
  have K6 := ksp_inPy (M := model prog w) Xk at1 at2 hp
  have K7 : Looks (model prog w) hh (numberSlotInPython (.type T) nm) false := Looks.of_pure rfl
  have K8 : Looks (model prog w) hh (typeLookup (.type T) (dunderR nm)) ro := looks_findIn Xk t2
  generalize ((fo.isSome && !isSeqSlot fo) || (ro.isSome && !isSeqSlot ro)) = right at K4
  have ne : (Value.ref C == Value.type T) = false := Bool.eq_false_iff.mpr fun q => by cases beq_iff_eq.mp q
  simp only [binaryOp, hi]
  refine wpAny_holding (wpAny_bind ?_)
  unfold binaryOp1
  refine wpAny_bind (K1.at (wpAny_bind (K2.at (wpAny_bind (K3.at ?_)))))
  simp only [ne, Bool.false_eq_true, if_false]
  cases right with
  | false =>
    ksp_lk
    refine wpAny_mono one (fun r s' ⟨v, e1, hq⟩ => ?_) fun _ _ e => e
    subst e1
    ksp_lk
    exact hq
  | true =>
    ksp_lk
    refine wpAny_mono one (fun r s' ⟨v, e1, hq⟩ => ?_) fun _ _ e => e
    subst e1
    ksp_lk
    exact hq
/-- the types of values that are told by their form -/
def tyN : D → Option String
  | .int _ => some "int"
  | .tup _ => some "tuple"
  | .str _ => some "str"
  | .bl _ => some "bool"
  | _ => none
theorem tyN_looks {X : Cx} {pins : List (Addr × Obj)} {s : Shared} {σ : L2.St} {H G : Hp} {as : List Addr} {ws : List Ce} {d : D} {x : V} {u : Value} {T : String} {M : Model} (I : Inv X pins σ H s) (rx : RelV x u) (W : Wd X.K G H as ws) (r : Rep X.K as G d x) (e : tyN d = some T) :
    PySem.W.Looks M s.heap (typeOf u) (.type T) := by
  cases d <;> simp only [tyN] at e <;> cases e
  case int i =>
    simp only [Rep] at r
    subst r
    obtain ⟨t, rfl⟩ := rx
    exact PySem.W.Looks.of_pure rfl
  case bl i =>
    simp only [Rep] at r
    subst r
    obtain rfl : u = Value.bool i := rx
    exact PySem.W.Looks.of_pure rfl
  case str i =>
    simp only [Rep] at r
    subst r
    obtain ⟨t, rfl⟩ := rx
    exact PySem.W.Looks.of_pure rfl
  case tup l =>
    simp only [Rep] at r
    obtain ⟨a, vs, e1, e2, e3⟩ := r
    subst e1
    obtain rfl : u = Value.ref a := rx
    obtain ⟨its, _, ⟨o, ho, hc, _⟩, _⟩ := I.tuple (.inl (.inl (W.le _ _ e2)))
    exact hc ▸ (PySem.W.Looks.ld ho).andThen .now
section
variable {X : Cx} {n : Nat} {CX : CXT} {f : Addr} {fd : FuncData} {ps : List Str} {E : XK} {c mth : Str} {m : Mf}
/-- an own def called from below -/
theorem own_run (F : FnOk X.prog X.w X.K X.mg X.base CX n f fd ps (spM X.K m)) (hb : Binds X.K fd ps []) (hx : Passes CX X E) {A : Around} {pins : List (Addr × Obj)} {s : Shared} {σ : L2.St} {H : Hp} {vs : List V} {us : List Value} {Q : VK}
    (sb : Sub X n A) (I : Inv X pins σ H s) (r : Vals vs us) (h : spM X.K m vs H Q E) : wpAny (model X.prog X.w) A (call (.ref f) us) (EP X pins σ Q) X.xe s := by
  have e0 : Env0 X.prog X.w X.K X.mg X.base A X.stack s H := by
    have e := I.env0
    exact ⟨by rw [sb.fr]; exact e.frames, e.mod, e.bs, e.bsz, e.funs, e.frf, e.hok, e.bare⟩
  have hl := F.len _ _ _ _ h
  refine wpAny_call (codeAny_mono (F.run A X.stack s H ⟨us, []⟩ us vs _ E sb.room e0 (by
    have := hb s us I.kIn (by rw [List.append_nil, ← r.length]; exact hl)
    simpa using this) r h) fun r' s' hq => ?_)
  cases r' with
  | error e => exact hx pins σ H s e s' I hq
  | ok fl =>
    cases fl with
    | ret w => exact I.after hq
    | next => exact False.elim hq
    | brk => exact False.elim hq
    | cont => exact False.elim hq
/-- a value is an instance of c, and the method is not among its own fields -/
def isIns (c : Str) (ws : List Ce) (d : D) : Bool := (insOf ws c d).isSome
theorem isIns_two {pins : List (Addr × Obj)} {s : Shared} {σ : L2.St} {H G : Hp} {as : List Addr} {ws : List Ce} {d : D} {x : V} {u : Value} (I : Inv X pins σ H s) (rx : RelV x u) (W : Wd X.K G H as ws) (r : Rep X.K as G d x) (e : isIns c ws d = true) :
    ∃ a, x = .ref a ∧ u = .ref a ∧ ∃ ox od, PySem.W.InstAt s.heap a ox (He.ga X.K c) (some od) := by
  obtain ⟨k, hk⟩ := Option.isSome_iff_exists.mp e
  exact ins_two I rx W r hk
/-- x op y by x's method -/
def rOwn (K : PySem.W.Frag) (E : XK) (c : Str) (m : Mf) (T : Option String) : R2 := fun x y H Q => ∃ G as ws dx dy, Wd K G H as ws ∧ Rep K as G dx x ∧ Rep K as G dy y ∧ isIns c ws dx = true ∧ (T.isSome = true → tyN dy = T) ∧ Post K E (Rep K) G H as (m [dx, dy] ws) Q
def sOwn (c : Str) (m : Mf) (T : Option String) (a b : Se) : Se := fun ρ ws => (a ρ ws).bind fun x ws1 => (b ρ ws1).bind fun y ws2 => if isIns c ws2 x = true ∧ (T.isSome = true → tyN y = T) then m [x, y] ws2 else .bad
theorem evOwn {K : PySem.W.Frag} {ta tb : TE} {a b : Se} {T : Option String} (ha : EvE K E ta a) (hb : EvE K E tb b) : EvE K E (tOp (rOwn K E c m T) ta tb) (sOwn c m T a b) := fun ρ ws G H as σ Q W S P => by
  refine ha ρ ws G H as σ _ W S (Post.bind P fun x ws1 v G1 H1 as1 r1 W1 rx P1 => ?_)
  refine hb ρ ws1 G1 H1 as1 σ _ W1 (S.up r1.pre r1.up) (Post.bind P1 fun y ws2 u G2 H2 as2 r2 W2 ry P2 => ?_)
  split at P2
  · rename_i hi
    exact ⟨G2, as2, ws2, x, y, W2, rx.up r2.pre r2.up, ry, hi.1, hi.2, P2⟩
  · exact False.elim P2
/-- what an operator needs of a class -/
structure Dun (X : Cx) (k : Nat) (E : XK) (c mth : Str) (m : Mf) : Prop where
  ok : ∃ f fd ps, FnOk X.prog X.w X.K X.mg X.base (L2.CX X.prog X.w) k f fd ps (spM X.K m) ∧ PySem.W.findIn X.K (.ref (He.ga X.K c)) mth = some (some (.ref f)) ∧ PySem.W.isFn X.K (.ref f) = true ∧ PySem.W.fnIn X.K f = true ∧ Binds X.K fd ps []
  px : Passes (L2.CX X.prog X.w) X E
variable {k : Nat}
/-- x in y, by y's __contains__ -/
def rOwnIn (K : PySem.W.Frag) (E : XK) (neg : Bool) (c : Str) (m : Mf) : R2 := fun x y H Q => ∃ G as ws dx dy, Wd K G H as ws ∧ Rep K as G dx x ∧ Rep K as G dy y ∧ isIns c ws dy = true ∧
  Post K E (Rep K) G H as ((m [dy, dx] ws).bind fun z ws1 => match z with
    | .bl b => .ok (.bl (if neg then !b else b)) ws1
    | _ => .bad) Q
def sOwnIn (neg : Bool) (c : Str) (m : Mf) (a b : Se) : Se := fun ρ ws => (a ρ ws).bind fun x ws1 => (b ρ ws1).bind fun y ws2 => if isIns c ws2 y = true then (m [y, x] ws2).bind fun z ws3 => match z with
    | .bl b => .ok (.bl (if neg then !b else b)) ws3
    | _ => .bad
  else .bad
theorem evOwnIn {K : PySem.W.Frag} {ta tb : TE} {a b : Se} {neg : Bool} (ha : EvE K E ta a) (hb : EvE K E tb b) : EvE K E (tOp (rOwnIn K E neg c m) ta tb) (sOwnIn neg c m a b) := fun ρ ws G H as σ Q W S P => by
  refine ha ρ ws G H as σ _ W S (Post.bind P fun x ws1 v G1 H1 as1 r1 W1 rx P1 => ?_)
  refine hb ρ ws1 G1 H1 as1 σ _ W1 (S.up r1.pre r1.up) (Post.bind P1 fun y ws2 u G2 H2 as2 r2 W2 ry P2 => ?_)
  split at P2
  · rename_i hi
    exact ⟨G2, as2, ws2, x, y, W2, rx.up r2.pre r2.up, ry, hi, P2⟩
  · exact False.elim P2
theorem op_ownIn {neg : Bool} (dn : Dun X k E c "__contains__" m) (hr : Room k X.A) : OpR X (compareOp (if neg then .NotIn else .In)) (rOwnIn X.K E neg c m) := by
  intro pins s σ H x y v u Q I rx ry h
  obtain ⟨G, as, ws, dx, dy, W, r1, r2, hi, P⟩ := h
  obtain ⟨f, fd, ps, F, hs, hf, _, hb⟩ := dn.ok
  obtain ⟨a, e1, e2, ox, od, J⟩ := isIns_two I ry W r2 hi
  subst e1 e2
  obtain ⟨mm, hF⟩ := I.fr
  have h : spM X.K m [.ref a, x] H (fun z H' => ∃ b, z = .bl b ∧ Q (.bl (if neg then !b else b)) H') E := by
    refine ⟨G, as, ws, [dy, dx], W, Reps.cons r2 (Reps.one r1), Post.bind P fun z ws1 vz G1 H1 as1 q1 W1 rz P1 => ?_⟩
    cases z with
    | bl b =>
      simp only [Rep] at rz
      exact ⟨b, rz, Post.done P1 W1 (by simp [Rep])⟩
    | _ => exact False.elim P1
  have z := own_run F hb dn.px (A := X.A) (us := [.ref a, v]) ⟨hr, rfl⟩ I (.cons (show RelV (V.ref a) (Value.ref a) from rfl) (.cons rx .nil)) h
  cases neg with
  | false =>
    refine PySem.W.in_K hF I.ok.mod.kin J hs hf (wpAny_mono z (fun r s' hz => ?_) fun _ _ q => q)
    obtain ⟨zv, H', I', rz, b, ez, q⟩ := hz
    subst ez
    obtain ⟨⟩ := rz
    exact wpAny_truthy_bool ⟨.bl b, H', I', rfl, q⟩
  | true =>
    refine PySem.W.notIn_K hF I.ok.mod.kin J hs hf (wpAny_mono z (fun r s' hz => ?_) fun _ _ q => q)
    obtain ⟨zv, H', I', rz, b, ez, q⟩ := hz
    subst ez
    obtain ⟨⟩ := rz
    exact wpAny_truthy_bool ⟨.bl (!b), H', I', rfl, q⟩
/-- x op y, by x's method -/
theorem op_own {op : Operator} {T : String} {fo ro rc : Option Value} (dn : Dun X k E c (PySem.dunder op.info.2) m) (hr : Room k X.A) (sf : PySem.W.selfFirst X.K (He.ga X.K c) = true) (at2 : PySem.W.findIn X.K (.ref (He.ga X.K c)) (dunderR op.info.2) = some rc)
    (hp : rc = none ∨ ∃ g : Addr, rc = some (.ref g)) (t1 : PySem.W.findIn X.K (.type T) (PySem.dunder op.info.2) = some fo) (t2 : PySem.W.findIn X.K (.type T) (dunderR op.info.2) = some ro) (sub : PySem.W.subIn X.K (.type T) (.ref (He.ga X.K c)) = some false) :
    OpR X (binaryOp op) (rOwn X.K E c m (some T)) := by
  intro pins s σ H x y v u Q I rx ry h
  obtain ⟨G, as, ws, dx, dy, W, r1, r2, hi, ht, P⟩ := h
  obtain ⟨f, fd, ps, F, hs, hf, _, hb⟩ := dn.ok
  obtain ⟨a, e1, e2, ox, od, J⟩ := isIns_two I rx W r1 hi
  subst e1 e2
  obtain ⟨mm, hF⟩ := I.fr
  have h : spM X.K m [.ref a, y] H Q E := ⟨G, as, ws, [dx, dy], W, Reps.cons r1 (Reps.one r2), P⟩
  have z := own_run F hb dn.px (A := X.A) (us := [.ref a, u]) ⟨hr, rfl⟩ I (.cons (show RelV (V.ref a) (Value.ref a) from rfl) (.cons ry .nil)) h
  refine bin_own hF I.ok.mod.kin J (tyN_looks I ry W r2 (ht rfl)) sf hs hf at2 hp t1 t2 sub (wpAny_mono z (fun r s' hz => ?_) fun _ _ q => q)
  obtain ⟨zv, H', I', rz, q⟩ := hz
  cases zv <;> cases r <;> first | exact ⟨_, H', I', rz, q⟩ | exact False.elim rz | (obtain ⟨_, rz⟩ := rz; cases rz) | cases rz
/-- x[y], by x's method -/
theorem ix_own {b : Expr} (dn : Dun X k E c "__getitem__" m) (hr : Room k X.A.in1) (hsl : ∀ a i, subscripted b true (.ref a) i = runValue (.builtin "lifetime.subscript" ⟨[.ref a, i], []⟩)) {value : Expr} {pins : List (Addr × Obj)} {s : Shared} {σ : L2.St} {H : Hp} {x y : V} {v u : Value} {Q : VK}
    (I : Inv X pins σ H s) (rx : RelV x v) (ry : RelV y u) (h : rOwn X.K E c m none x y H Q) : wpAny (model X.prog X.w) X.A (subscriptTail value b v u) (EP X pins σ Q) X.xe s := by
  obtain ⟨G, as, ws, dx, dy, W, r1, r2, hi, _, P⟩ := h
  obtain ⟨f, fd, ps, F, hs, hf, hfi, hb⟩ := dn.ok
  obtain ⟨a, e1, e2, ox, od, J⟩ := isIns_two I rx W r1 hi
  subst e1 e2
  obtain ⟨mm, hF⟩ := I.fr
  have h : spM X.K m [.ref a, y] H Q E := ⟨G, as, ws, [dx, dy], W, Reps.cons r1 (Reps.one r2), P⟩
  exact PySem.W.sub_K hF I.ok.mod.kin J hs hfi hf (own_run F hb dn.px (A := X.A.in1) (us := [.ref a, u]) ⟨hr, rfl⟩ I (.cons (show RelV (V.ref a) (Value.ref a) from rfl) (.cons ry .nil)) h) (hsl a u)
end
section
variable {K : PySem.W.Frag} {X : Cx} {E : XK} {a b : Expr} {ta tb : TE} {sa sb : Se} {c : Str} {m : Mf} {k : Nat} {pos : Pos}
theorem ae_binO {op : Operator} {T : String} {fo ro rc : Option Value} (dn : Dun X k E c (PySem.dunder op.info.2) m) (hr : Room k X.A) (ha : AE K X E a ta sa) (hb : AE K X E b tb sb) (sf : PySem.W.selfFirst X.K (He.ga X.K c) = true) (at2 : PySem.W.findIn X.K (.ref (He.ga X.K c)) (dunderR op.info.2) = some rc)
    (hp : rc = none ∨ ∃ g : Addr, rc = some (.ref g)) (t1 : PySem.W.findIn X.K (.type T) (PySem.dunder op.info.2) = some fo) (t2 : PySem.W.findIn X.K (.type T) (dunderR op.info.2) = some ro) (sub : PySem.W.subIn X.K (.type T) (.ref (He.ga X.K c)) = some false) :
    AE K X E (.BinOp a op b pos) (tOp (rOwn K E c m (some T)) ta tb) (sOwn c m (some T) sa sb) := by
  have e := ha.hK
  subst e
  exact ⟨rfl, pe_op (op_own dn hr sf at2 hp t1 t2 sub) ha.pe hb.pe, evOwn ha.ev hb.ev⟩
theorem ae_inO {neg : Bool} (dn : Dun X k E c "__contains__" m) (hr : Room k X.A) (ha : AE K X E a ta sa) (hb : AE K X E b tb sb) (hm : behindInMarks (if neg then .NotIn else .In) b = false) :
    AE K X E (.Compare a [if neg then .NotIn else .In] [b] pos) (tOp (rOwnIn K E neg c m) ta tb) (sOwnIn neg c m sa sb) := by
  have e := ha.hK
  subst e
  exact ⟨rfl, pe_cmpR (op_ownIn dn hr) ha.pe hb.pe hm, evOwnIn ha.ev hb.ev⟩
theorem at_inO {neg : Bool} (dn : Dun X k E c "__contains__" m) (hr : Room k X.A) (ha : AE K X E a ta sa) (hb : AE K X E b tb sb) (hm : behindInMarks (if neg then .NotIn else .In) b = false) :
    AT K X E (.Compare a [if neg then .NotIn else .In] [b] pos) (tB (tOp (rOwnIn K E neg c m) ta tb)) (sB (sOwnIn neg c m sa sb)) := by
  have e := ha.hK
  subst e
  exact ⟨rfl, pt_cmpR (op_ownIn dn hr) ha.pe hb.pe hm, evB (evOwnIn ha.ev hb.ev)⟩
theorem ae_ixO (dn : Dun X k E c "__getitem__" m) (hr : Room k X.A.in1) (ha : AE K X E a ta sa) (hb : AE K X E b tb sb) (hsl : ∀ x i, subscripted b true (.ref x) i = runValue (.builtin "lifetime.subscript" ⟨[.ref x, i], []⟩) := by intro _ _; with_unfolding_all rfl) :
    AE K X E (.Subscript a b pos) (tOp (rOwn K E c m none) ta tb) (sOwn c m none sa sb) := by
  have e := ha.hK
  subst e
  refine ⟨rfl, ⟨fun pins s σ H Q I h => Subscript_ (binT ha.pe hb.pe I h fun v u s2 x y H2 I2 rx ry q => ix_own dn hr hsl I2 rx ry q)⟩, evOwn ha.ev hb.ev⟩
end
end RL
set_option Elab.async false
set_option linter.all false
set_option maxRecDepth 100000
/-! RL10: len, str, items stored by an own class; isinstance; properties, classmethods, new instances. -/
namespace RL
open PySem PySem.Spec PyProof.Rows L2
theorem pass_nox {X : Cx} : Passes (L2.CX X.prog X.w) X.nox E0 := fun _ _ _ _ _ _ _ h => by
  obtain ⟨_, _, _, _, _, _, _, _, _, _, _, _, h⟩ := h
  exact h.elim
theorem pass_e0 {X : Cx} : Passes (L2.CX X.prog X.w) X E0 := fun _ _ _ _ _ _ _ h => by
  obtain ⟨_, _, _, _, _, _, _, _, _, _, _, _, h⟩ := h
  exact h.elim
section
variable {X : Cx} {E : XK} {c : Str} {m : Mf} {k : Nat}
/-! len(x), str(x) by own defs -/
def rOwnLen (K : PySem.W.Frag) (E : XK) (c : Str) (m : Mf) : List V → Hp → VK → Prop := fun xs H Q => ∃ x G as ws d, xs = [x] ∧ Wd K G H as ws ∧ Rep K as G d x ∧ isIns c ws d = true ∧ Post K E (Rep K) G H as ((m [d] ws).bind fun z ws1 => match z with
  | .int i => if 0 ≤ i ∧ i < 1000000 then .ok (.int i) ws1 else .bad
  | _ => .bad) Q
def rOwnStr (K : PySem.W.Frag) (E : XK) (c : Str) (m : Mf) : List V → Hp → VK → Prop := fun xs H Q => ∃ x G as ws d, xs = [x] ∧ Wd K G H as ws ∧ Rep K as G d x ∧ isIns c ws d = true ∧ Post K E (Rep K) G H as ((m [d] ws).bind fun z ws1 => match z with
  | .str i => .ok (.str i) ws1
  | _ => .bad) Q
theorem call_ownLen (dn : Dun X k E c "__len__" m) (hr : Room k X.A.in1) : CallR X (.builtin "len") (rOwnLen X.K E c m) := by
  intro pins s σ H xs us Q I rv h
  obtain ⟨x, G, as, ws, d, ex, W, r1, hi, P⟩ := h
  subst ex
  obtain ⟨u, rfl, rx⟩ := rv.one
  obtain ⟨f, fd, ps, F, hs, hf, _, hb⟩ := dn.ok
  obtain ⟨a, e1, e2, ox, od, J⟩ := isIns_two I rx W r1 hi
  subst e1 e2
  obtain ⟨mm, hF⟩ := I.fr
  have h : spM X.K m [.ref a] H (fun z H' => ∃ i : Int, z = .int i ∧ (0 ≤ i ∧ i < 1000000) ∧ Q (.int i) H') E := by
    refine ⟨G, as, ws, [d], W, Reps.one r1, Post.bind P fun z ws1 vz G1 H1 as1 q1 W1 rz P1 => ?_⟩
    cases z with
    | int i =>
      simp only at P1
      split at P1
      · rename_i hi
        simp only [Rep] at rz
        exact ⟨i, rz, hi, Post.done P1 W1 (by simp [Rep])⟩
      · exact False.elim P1
    | _ => exact False.elim P1
  have z := own_run F hb dn.px (A := X.A.in1) (us := [.ref a]) ⟨hr, rfl⟩ I (.cons (show RelV (V.ref a) (Value.ref a) from rfl) .nil) h
  refine PySem.W.len_K hF I.ok.mod.kin J hs hf (wpAny_mono z (fun r s' hz => ?_) fun _ _ q => q)
  obtain ⟨zv, H', I', rz, i, ez, hi, q⟩ := hz
  subst ez
  obtain ⟨t, rfl⟩ := rz
  exact ⟨⟨hi.1, by omega⟩, .int i, H', I'.tok _, ⟨_, rfl⟩, q⟩
theorem call_ownStr (dn : Dun X k E c "__str__" m) (hr : Room k X.A.in1.in1) : CallR X (.type "str") (rOwnStr X.K E c m) := by
  intro pins s σ H xs us Q I rv h
  obtain ⟨x, G, as, ws, d, ex, W, r1, hi, P⟩ := h
  subst ex
  obtain ⟨u, rfl, rx⟩ := rv.one
  obtain ⟨f, fd, ps, F, hs, hf, _, hb⟩ := dn.ok
  obtain ⟨a, e1, e2, ox, od, J⟩ := isIns_two I rx W r1 hi
  subst e1 e2
  have h : spM X.K m [.ref a] H (fun z H' => ∃ i : Str, z = .str i ∧ Q (.str i) H') E := by
    refine ⟨G, as, ws, [d], W, Reps.one r1, Post.bind P fun z ws1 vz G1 H1 as1 q1 W1 rz P1 => ?_⟩
    cases z with
    | str i =>
      simp only [Rep] at rz
      exact ⟨i, rz, Post.done P1 W1 (by simp [Rep])⟩
    | _ => exact False.elim P1
  have z := own_run F hb dn.px (A := X.A.in1.in1) (us := [.ref a]) ⟨hr, rfl⟩ I (.cons (show RelV (V.ref a) (Value.ref a) from rfl) .nil) h
  refine PySem.W.kso_call hr.units0 I.kIn J hs hf (wpAny_mono z (fun r s' hz => ?_) fun _ _ q => q)
  obtain ⟨zv, H', I', rz, i, ez, q⟩ := hz
  subst ez
  obtain ⟨t, rfl⟩ := rz
  exact ⟨.str i, H', I', ⟨_, rfl⟩, q⟩
def sLenO (c : Str) (m : Mf) (a : Sa) : Se := fun ρ ws => (a ρ ws).bind fun ds ws1 => match ds with
  | [d] => if isIns c ws1 d = true then (m [d] ws1).bind fun z ws2 => (match z with
      | .int i => if 0 ≤ i ∧ i < 1000000 then .ok (.int i) ws2 else .bad
      | _ => .bad)
    else .bad
  | _ => .bad
def sStrO (c : Str) (m : Mf) (a : Sa) : Se := fun ρ ws => (a ρ ws).bind fun ds ws1 => match ds with
  | [d] => if isIns c ws1 d = true then (m [d] ws1).bind fun z ws2 => (match z with
      | .str i => .ok (.str i) ws2
      | _ => .bad)
    else .bad
  | _ => .bad
variable {K : PySem.W.Frag} {e : Expr} {es : List Expr} {ta : TA} {sa : Sa} {p pos : Pos}
theorem ae_lenO (dn : Dun X k E c "__len__" m) (hr : Room k X.A.in1) (hm : X.mg "len" = none) (ha : AA K X E (e :: es) ta sa) (hg : Gl X "len" := by rfl)
    (he : starEach (e :: es) X.env = (false, eval e X.env) :: starEach es X.env := by rfl) (hpl : (backTo pos (starEach es X.env)).any (·.1) = false := by rfl) : AE K X E (.Call (.Name "len" p) (e :: es) [] pos) (tCB (rOwnLen K E c m) ta) (sLenO c m sa) := by
  have e0 := ha.hK
  subst e0
  refine ⟨rfl, pe_callB (call_ownLen dn hr) hg hm rfl ha.pe (by decide) (by decide) he hpl, fun ρ ws G H as σ Q W S P => ha.ev ρ ws G H as σ _ W S (Post.bind P fun ds ws1 vs G1 H1 as1 r1 W1 rs P1 => ?_)⟩
  split at P1
  · split at P1
    · rename_i d hi
      obtain ⟨v, us, e1, e2, e3⟩ := rs.uncons
      rw [e3.unnil] at e1
      subst e1
      exact ⟨v, G1, as1, ws1, d, rfl, W1, e2, hi, P1⟩
    · exact False.elim P1
  · exact False.elim P1
theorem ae_strO (dn : Dun X k E c "__str__" m) (hr : Room k X.A.in1.in1) (hm : X.mg "str" = none) (ha : AA K X E (e :: es) ta sa) (hg : Gl X "str" := by rfl)
    (he : starEach (e :: es) X.env = (false, eval e X.env) :: starEach es X.env := by rfl) (hpl : (backTo pos (starEach es X.env)).any (·.1) = false := by rfl) : AE K X E (.Call (.Name "str" p) (e :: es) [] pos) (tCB (rOwnStr K E c m) ta) (sStrO c m sa) := by
  have e0 := ha.hK
  subst e0
  refine ⟨rfl, pe_callTy (call_ownStr dn hr) hg hm rfl ha.pe (by decide) (by decide) he hpl, fun ρ ws G H as σ Q W S P => ha.ev ρ ws G H as σ _ W S (Post.bind P fun ds ws1 vs G1 H1 as1 r1 W1 rs P1 => ?_)⟩
  split at P1
  · split at P1
    · rename_i d hi
      obtain ⟨v, us, e1, e2, e3⟩ := rs.uncons
      rw [e3.unnil] at e1
      subst e1
      exact ⟨v, G1, as1, ws1, d, rfl, W1, e2, hi, P1⟩
    · exact False.elim P1
  · exact False.elim P1
/-! o[i] = v by an own __setitem__ -/
def rOwnSet (K : PySem.W.Frag) (E : XK) (c : Str) (m : Mf) : TSet := fun o i v H Q => ∃ G as ws d di dv, Wd K G H as ws ∧ Rep K as G d o ∧ Rep K as G di i ∧ Rep K as G dv v ∧ isIns c ws d = true ∧ Post K E (Rep K) G H as (m [d, di, dv] ws) fun _ H' => Q H'
theorem set_own (dn : Dun X k E c "__setitem__" m) (hr : Room k X.A) (hq : PySem.W.noSeq X.K (He.ga X.K c) = true) : PSet X (rOwnSet X.K E c m) := by
  intro pins s σ H o i v ov iv u Q I ro ri rv h
  obtain ⟨G, as, ws, d, di, dv, W, r1, r2, r3, hi, P⟩ := h
  obtain ⟨f, fd, ps, F, hs, hf, _, hb⟩ := dn.ok
  obtain ⟨a, e1, e2, ox, od, J⟩ := isIns_two I ro W r1 hi
  subst e1 e2
  obtain ⟨mm, hF⟩ := I.fr
  have h : spM X.K m [.ref a, i, v] H (fun _ H' => Q H') E := ⟨G, as, ws, [d, di, dv], W, Reps.cons r1 (Reps.cons r2 (Reps.one r3)), P⟩
  have z := own_run F hb dn.px (A := X.A) (us := [.ref a, iv, u]) ⟨hr, rfl⟩ I (.cons (show RelV (V.ref a) (Value.ref a) from rfl) (.cons ri (.cons rv .nil))) h
  refine PySem.W.ksp_setItem hF I.ok.mod.kin J hq hs hf (wpAny_mono z (fun r s' hz => ?_) fun _ _ q => q)
  obtain ⟨zv, H', I', rz, q⟩ := hz
  exact ⟨H', I', q⟩
def tgItemO (c : Str) (m : Mf) (o i : Se) : Tg := fun d ρ ws => (o ρ ws).bind fun x ws1 => (i ρ ws1).bind fun j ws2 => if isIns c ws2 x = true then (m [x, j, d] ws2).bind fun _ ws3 => .ok ρ ws3 else .bad
theorem ag_itemO {o i : Expr} {to ti : TE} {so si : Se} (dn : Dun X k E c "__setitem__" m) (hr : Room k X.A) (hq : PySem.W.noSeq X.K (He.ga X.K c) = true) (ho : AE K X E o to so) (hi : AE K X E i ti si) (ha : ∀ v, assign (.Subscript o i pos) X.env v = (do
      let ov ← holding [v] (eval o X.env)
      let iv ← holding [v, ov] (eval i X.env)
      standAt pos
      holding [v, ov, iv] (setItem ov iv v)
      release [v, ov, iv] []) := by intro _; rfl) : AG K X E (.Subscript o i pos) (gSub to ti (rOwnSet K E c m)) [] (tgItemO c m so si) := by
  have e0 := ho.hK
  subst e0
  refine ⟨rfl, pg_sub ho.pe hi.pe (set_own dn hr hq) ha, fun d v ρ ws G H as σ Q W S r P => ho.ev ρ ws G H as σ _ W S (Post.bind P fun x ws1 u G1 H1 as1 r1 W1 rx P1 => ?_)⟩
  have S1 := S.up r1.pre r1.up
  refine hi.ev ρ ws1 G1 H1 as1 σ _ W1 S1 (Post.bind P1 fun j ws2 w G2 H2 as2 r2 W2 rj P2 => ?_)
  split at P2
  · rename_i hh
    exact ⟨G2, as2, ws2, x, j, d, W2, rx.up r2.pre r2.up, rj, (r.up r1.pre r1.up).up r2.pre r2.up, hh, Post.bind P2 fun _ ws3 _ G3 H3 as3 r3 W3 _ P3 => Post.done P3 W3 ⟨(S1.up r2.pre r2.up).up r3.pre r3.up, Chg.refl⟩⟩
  · exact False.elim P2
/-! ### isinstance -/
inductive Tn where
  | b (n : String) | c (n : Str)
  deriving DecidableEq
def tyD (ws : List Ce) : D → Option Tn
  | .non => some (.b "NoneType")
  | .bl _ => some (.b "bool")
  | .int _ => some (.b "int")
  | .str _ => some (.b "str")
  | .tup _ => some (.b "tuple")
  | .lst _ => some (.b "list")
  | .ins c _ _ => some (.c c)
  | .cell n => (match ws[n]? with
    | some (.lst _) => some (.b "list")
    | some (.ins c _ _) => some (.c c)
    | some (.dct _ _) => some (.b "dict")
    | some (.dcT _ _) => some (.b "dict")
    | _ => none)
  | .cls _ => none
  | .fz _ => none
  | .exc _ _ _ => none
  | .dct _ _ => some (.b "dict")
  | .dcT _ _ => some (.b "dict")
def tnV (K : PySem.W.Frag) : Tn → Value
  | .b n => .type n
  | .c n => .ref (He.ga K n)
/-- what an own class must have to be asked after -/
structure IsC (K : PySem.W.Frag) (c : Str) : Prop where
  cl : Cls K (He.ga K c)
  at_ : PySem.W.findIn K (.ref (He.ga K c)) "__class__" = some (some (.builtin "object.__class__"))
  mro : PySem.W.mroIn K (He.ga K c) (.type "object") = some true
structure IsF (K : PySem.W.Frag) : Prop where
  get : PySem.W.specialIn K (.builtin "object.__class__") "__get__" = some (some (.builtin "getset_descriptor.__get__"))
  tk : PySem.W.takesIn K (.builtin "object.__class__") = some true
theorem tyD_ok {G H : Hp} {as : List Addr} {ws : List Ce} {d : D} {x : V} {t : Tn} (IF : IsF K) (hc : ∀ n, t = .c n → IsC K n) (W : Wd K G H as ws) (r : Rep K as G d x) (e : tyD ws d = some t) : TyX K H x (tnV K t) := by
  have hi : ∀ {c0 : Str} {kl}, insOf ws c0 d = some kl → IsC K c0 → TyX K H x (.ref (He.ga K c0)) := fun {c0 kl} q C => by
    obtain ⟨ks, l⟩ := kl
    obtain ⟨a, dx, vs, e1, e2, e3, e4⟩ := ins_rep W q r
    subst e1
    exact .base (.ins e2 C.cl C.at_ IF.get IF.tk C.mro)
  cases d with
  | non =>
    cases e
    simp only [Rep] at r
    subst r
    exact .base .non
  | bl b =>
    cases e
    simp only [Rep] at r
    subst r
    exact .base (.bl b)
  | int b =>
    cases e
    simp only [Rep] at r
    subst r
    exact .base (.int b)
  | str b =>
    cases e
    simp only [Rep] at r
    subst r
    exact .base (.str b)
  | tup l =>
    cases e
    simp only [Rep] at r
    obtain ⟨a, vs, e1, e2, e3⟩ := r
    subst e1
    exact .base (.tup (W.le _ _ e2))
  | lst l =>
    cases e
    simp only [Rep] at r
    obtain ⟨a, vs, e1, e2, e3⟩ := r
    subst e1
    exact .base (.lst (W.le _ _ e2))
  | ins c1 ks l =>
    cases e
    exact hi (c0 := c1) (kl := (ks, l)) (by simp [insOf]) (hc _ rfl)
  | cell n =>
    simp only [tyD] at e
    cases q : ws[n]? with
    | none =>
      rw [q] at e
      cases e
    | some ce =>
      rw [q] at e
      cases ce with
      | lst l =>
        cases e
        obtain ⟨a, vs, e1, e2, e3, e4⟩ := cell_lst W q r
        subst e1
        exact .base (.lst e3)
      | ins c1 ks l =>
        cases e
        exact hi (c0 := c1) (kl := (ks, l)) (by simp [insOf, q]) (hc _ rfl)
      | dead => cases e
      | dct ks l =>
        cases e
        obtain ⟨a, o, e1, e2, e3, vs, e4, e5, e6⟩ := W.cellAt q (fun z => by cases z) r
        subst e1 e4
        exact .base (.dK e3)
      | dcT ks l =>
        cases e
        obtain ⟨a, o, e1, e2, e3, vs, e4, e5, e6⟩ := W.cellAt q (fun z => by cases z) r
        subst e1 e4
        exact .base (.dT e3)
  | cls _ => cases e
  | fz _ => cases e
  | exc _ _ _ => cases e
  | dct ks l =>
    cases e
    simp only [Rep] at r
    obtain ⟨a, vs, e1, e2, e3⟩ := r
    subst e1
    exact .base (.dK (W.le _ _ e2))
  | dcT ks l =>
    cases e
    simp only [Rep] at r
    obtain ⟨a, vs, e1, e2, e3⟩ := r
    subst e1
    exact .base (.dT (W.le _ _ e2))
/-- isinstance(a, T) by a table: types and answers -/
def sIsi (tab : List (Tn × Bool)) (a : Se) : Se := fun ρ ws => (a ρ ws).bind fun x ws1 => match tyD ws1 x with
  | some t => (match tab.lookup t with
    | some b => .ok (.bl b) ws1
    | none => .bad)
  | none => .bad
/-- the table is right for the class u -/
def TabOk (K : PySem.W.Frag) (tab : List (Tn × Bool)) (u : Value) : Prop := ∀ t b, tab.lookup t = some b → PySem.W.kitOne K (tnV K t) u = some b ∧ ∀ n, t = .c n → IsC K n
theorem ae_isi {e2 : Expr} {v2 : V} {u2 : Value} {tab : List (Tn × Bool)} {te : TE} {se : Se} (IF : IsF K) (ok : TabOk K tab u2) (hc : ClsV v2 u2) (hm : X.mg "isinstance" = none) (h : AE K X E e te se) (h2 : PE X e2 (tC v2)) (hg : Gl X "isinstance" := by rfl)
    (he : starEach [e, e2] X.env = (false, eval e X.env) :: starEach [e2] X.env := by rfl) (hs2 : starEach [e2] X.env = (false, eval e2 X.env) :: starEach [] X.env := by rfl) (hpl : (backTo pos (starEach [e2] X.env)).any (·.1) = false := by rfl) :
    AE K X E (.Call (.Name "isinstance" p) [e, e2] [] pos) (tCB (rIsi K) (tCons te (tCons (tC v2) tNil))) (sIsi tab se) := by
  have e0 := h.hK
  subst e0
  refine ⟨rfl, pe_callB call_isi hg hm rfl (pa_cons h.pe (pa_cons h2 pa_nil hs2) he) (by decide) (by decide) he hpl, fun ρ ws G H as σ Q W S P => h.ev ρ ws G H as σ _ W S (Post.bind P fun d ws1 x G1 H1 as1 r1 W1 rx P1 => ?_)⟩
  split at P1
  · rename_i t ht
    split at P1
    · rename_i b hb
      obtain ⟨k1, k2⟩ := ok t b hb
      exact ⟨x, v2, tnV X.K t, u2, b, rfl, hc, tyD_ok IF k2 W1 rx ht, k1, Post.done P1 W1 (by simp [Rep])⟩
    · exact False.elim P1
  · exact False.elim P1
end
end RL
set_option Elab.async false
set_option linter.all false
set_option maxRecDepth 100000
/-! RL11: new instances (arguments starred and by name), properties, classmethods, methods with keywords. -/
namespace RL
open PySem PySem.Spec PyProof.Rows L2
/-- a def, called with values and with values by the names ks, does m of them all -/
def FnA (P : Program) (w : World) (K : PySem.W.Frag) (mg : Str → Option Value) (base : Heap) (k : Nat) (f : Addr) (ks : List Str) (m : Mf) : Prop := ∀ (A : Around) (outer : List Env) (s : Shared) (H : Hp) (us us2 : List Value) (vs zs : List V) (Q : VK) (E : XK),
  Room k A → Env0 P w K mg base A outer s H → Vals vs us → Vals zs us2 → us2.length = ks.length → spM K m (vs ++ zs) H Q E → codeAny (model P w) A (.call (.ref f) ⟨us, ks.zip us2⟩) (CR (L2.CX P w) outer P w H s Q E) s
section
variable {P : Program} {w : World} {K : PySem.W.Frag} {mg : Str → Option Value} {base : Heap} {k : Nat} {f : Addr} {fd : FuncData} {ps : List Str} {m : Mf} {x qual : Str} {params : Arguments} {body : List Stmt} {scope : Scope} {dvs : List V} {kws : List (Str × V)}
theorem FnA.mono {j : Nat} {ks : List Str} (F : FnA P w K mg base j f ks m) (h : j ≤ k) : FnA P w K mg base k f ks m := fun A outer s H us us2 vs zs Q E hr => F A outer s H us us2 vs zs Q E (hr.mono h)
theorem fna_of (F : FnOk P w K mg base (L2.CX P w) k f fd ps (spM K m)) (hb : Binds K fd ps []) : FnA P w K mg base k f [] m := by
  intro A outer s H us us2 vs zs Q E hr e0 r rz hl h
  have e1 : us2 = [] := List.length_eq_zero_iff.mp hl
  subst e1
  cases rz
  rw [List.append_nil] at h
  have KX : K.In s.heap := e0.mod.kin.keeps fun b o e => (e0.bs b o e).1
  have hl := F.len _ _ _ _ h
  have z := hb s us KX (by rw [List.append_nil, ← r.length]; exact hl)
  rw [List.append_nil] at z
  exact F.run A outer s H ⟨us, []⟩ us vs Q E hr e0 z r h
/-- parameters given by name behind n others -/
theorem fna_kw (F : FnOk P w K mg base (L2.CX P w) k f fd ps (spM K m)) (ks : List Str) (hb : ∀ (s : Shared) (us us2 : List Value), K.In s.heap → us2.length = ks.length → (us ++ us2).length = ps.length → BindsTo s fd ⟨us, ks.zip us2⟩ (ps.zip (us ++ us2))) : FnA P w K mg base k f ks m := by
  intro A outer s H us us2 vs zs Q E hr e0 r rz hl h
  have KX : K.In s.heap := e0.mod.kin.keeps fun b o e => (e0.bs b o e).1
  have rr := r.append rz
  have hl2 := F.len _ _ _ _ h
  exact F.run A outer s H ⟨us, ks.zip us2⟩ (us ++ us2) (vs ++ zs) Q E hr e0 (hb s us us2 KX hl (by rw [← rr.length]; exact hl2)) rr h
/-- a starred parameter behind n others, nk by name -/
def starM (kp : Bool) (n nk : Nat) (N : List Str) (g : Ss) : Mf := fun ds ws => if n + nk ≤ ds.length ∧ ds.length ≤ 100000 then
    fin kp ws (g (startD N (ds.take n ++ ds.drop (ds.length - nk) ++ [.tup ((ds.drop n).take (ds.length - n - nk))])) ws)
  else .bad
theorem vals_cut {vs : List V} {us : List Value} (r : Vals vs us) (n : Nat) : Vals (vs.take n) (us.take n) ∧ Vals (vs.drop n) (us.drop n) := by
  induction r generalizing n with
  | nil => simp; exact .nil
  | cons a r ih =>
    cases n with
    | zero => exact ⟨.nil, .cons a r⟩
    | succ n => exact ⟨.cons a (ih n).1, (ih n).2⟩
theorem fna_star {psA ks N : List Str} {pv : Str} {n : Nat} {g : Ss} {kp : Bool} (F : FunD K x qual params body scope [] kws f fd) (S : FnScope N (psA ++ [pv]) scope) (hA : psA.length = n + ks.length)
    (hb : ∀ (kV doc pm : Value) (an : Option Addr) (cdv ct : Value) (us rest us2 : List Value), us.length = n → us2.length = ks.length → bindArgs (PySem.W.fnOf x qual params body scope .none kV doc pm an cdv ct) ⟨us ++ rest, ks.zip us2⟩ = (newTuple rest >>= fun t => pure (psA.zip (us ++ us2) ++ [(pv, t)])))
    (hd : ∀ (cdv : Value) (A : Around) (outer : List Env) (s : Shared) (H : Hp) (E : XK), Ctx P w K mg base N scope k (cxOf (L2.CX P w) P w K mg base N qual scope f cdv A outer s H E) E → ∃ ts, ASs K (cxOf (L2.CX P w) P w K mg base N qual scope f cdv A outer s H E) E body ts g) :
    FnA P w K mg base (k + 1) f ks (starM kp n ks.length N g) := by
  obtain ⟨oc, od, dV, kV, doc, pm, an, cdv, ct, osl, rfl, lk, hcd, hD, _⟩ := F.ex
  have hdv : dV = .none := by
    rcases hD with ⟨_, e⟩ | ⟨e, _⟩
    · exact e
    · exact absurd rfl e
  subst hdv
  intro A outer s H us us2 vs zs Q E hr e0 r rz hl h
  obtain ⟨G, as, ws, ds, W, rs, Pt⟩ := h
  unfold starM at Pt
  split at Pt
  · rename_i hh
    obtain ⟨h1, h2⟩ := hh
    have ez : zs.length = ks.length := by rw [rz.length, hl]
    have el : ds.length = vs.length + ks.length := by rw [rs.len, List.length_append, ez]
    have hv : n ≤ vs.length := by omega
    obtain ⟨q1, q2⟩ := vals_cut r n
    have hu : us.length = vs.length := r.length.symm
    have hn : H s.heap.objs.size = none := e0.hok.fresh (Nat.le_refl _)
    have hz : (vs.drop n).length ≤ sizeLine := small5 (by rw [List.length_drop]; omega)
    have hz2 : (us.drop n).length ≤ sizeLine := by rw [← q2.length]; exact hz
    have hus : (us.take n).length = n := by rw [List.length_take]; omega
    refine StX.run_bnd lk hcd S hr e0 (G := fun xs H2 => ∃ p, H p = none ∧ xs = (vs.take n ++ zs) ++ [V.ref p] ∧ H2 = upd H p (.tup (vs.drop n))) (fun A' Ex Q' hk => ?_) fun s2 H2 xs ⟨p, hp, ex, eH⟩ hr' => ?_
    · have hb' := hb kV doc pm an cdv ct (us.take n) (us.drop n) us2 hus hl
      rw [List.take_append_drop] at hb'
      rw [hb']
      refine wpAny_bind (wpAny_newTuple (wpAny_pure ?_) hz2)
      have new : ObjOk P w (upd H s.heap.objs.size (.tup (vs.drop n))) (s.heap.push ({ cls := .type "tuple", data := .seq (us.drop n).toArray } : Obj)) s.heap.objs.size (.tup (vs.drop n)) := ⟨hz, us.drop n, q2, ⟨_, Heap.get?_push_size _ rfl, rfl, _, rfl⟩⟩
      have un := StX.un_laid (fs := frs outer) (s := s) (o := ({ cls := .type "tuple", data := .seq (us.drop n).toArray } : Obj)) (u := .tup (vs.drop n)) hn
      have z := hk _ _ ((vs.take n ++ zs) ++ [V.ref s.heap.objs.size]) ((us.take n ++ us2) ++ [Value.ref s.heap.objs.size]) (StX.env0_laid e0 new) un rfl (fun e s' => StX.cxUp outer s H _ _ E e s' un (fun b o q => Heap.get?_push_of_some _ q) rfl) ((q1.append rz).append (.cons rfl .nil))
        (by
          rw [List.length_append, List.length_append, List.length_append, List.length_take, hA, ez, Nat.min_eq_left hv] <;> rfl) ⟨_, hn, rfl, rfl⟩
      rw [List.zip_append (by rw [List.length_append, hus, hl, hA])] at z
      exact z
    · subst ex eH
      have tk : Takes (cxOf (L2.CX P w) P w K mg base N qual scope f cdv A outer s2 (upd H p (.tup (vs.drop n))) E) fun cls d _ H => E cls d H := takes_of rfl rfl rfl rfl
      obtain ⟨ts, hT⟩ := hd cdv A outer s2 (upd H p (.tup (vs.drop n))) E ⟨hr', tk, passes_call tk fun _ _ _ _ z => z, PassesOwn.leaving⟩
      refine ⟨ts, hT.pe, ?_⟩
      have rch := Rch.new (as := as) (o := .tup (vs.drop n)) W.le hp
      have W2 := W.new (o := .tup (vs.drop n)) hp
      have rs2 := rs.up (List.prefix_refl _) rch.up
      have lz : zs = (vs ++ zs).drop (ds.length - ks.length) := by
        have : ds.length - ks.length = vs.length := by omega
        rw [this, List.drop_left]
      have lv : vs.drop n = ((vs ++ zs).drop n).take (ds.length - n - ks.length) := by
        rw [List.drop_append_of_le_length hv]
        have : ds.length - n - ks.length = (vs.drop n).length := by
          rw [List.length_drop]
          omega
        rw [this, List.take_left]
      have lt : vs.take n = (vs ++ zs).take n := by rw [List.take_append_of_le_length hv]
      have rr : Reps K as (upd G p (.tup (vs.drop n))) (ds.take n ++ ds.drop (ds.length - ks.length) ++ [.tup ((ds.drop n).take (ds.length - n - ks.length))]) ((vs.take n ++ zs) ++ [V.ref p]) := by
        refine Reps.app (Reps.app ?_ ?_) (Reps.one ?_)
        · rw [lt]
          exact rs2.take n
        · rw [lz]
          exact rs2.drop _
        · simp only [Rep]
          refine ⟨p, vs.drop n, rfl, upd_same, ?_⟩
          have z := (rs2.drop n).take (ds.length - n - ks.length)
          rw [← lv] at z
          exact z
      exact hT.ev _ ws _ _ as _ _ W2 (start_rep rr) (fin_post W2 (Post.from Pt rch))
  · exact False.elim Pt
end
/-! ### new instances -/
/-- a new instance of c: m fills it; it is kept open, or fixed -/
def mkR (kp : Bool) (c : Str) (m : Mf) (ds : List D) (ws : List Ce) : R D :=
  let r := (m (.cell ws.length :: ds) (ws ++ [.ins c [] []])).bind fun z ws2 => match z with
    | .non => .ok (.cell ws.length) ws2
    | _ => .bad
  if kp = true then r else frzR ws r
def tMkA (K : PySem.W.Frag) (C : Addr) (m : Mf) (E : XK) (Q : VK) (vs : List V) (H : Hp) : Prop := ∀ x dx, H x = none → H dx = none → dx ≠ x → spM K m (.ref x :: vs) (upd (upd H dx (.own x)) x (.ins C dx [])) (fun v H3 => v = .non ∧ Q (.ref x) H3) E
section
variable {X : Cx} {E : XK} {k : Nat} {f : Addr} {ks : List Str} {m : Mf} {c : Str}
theorem run_mk {pins : List (Addr × Obj)} {σ : L2.St} {H : Hp} {s : Shared} {Q : VK} {us us2 : List Value} {vs zs : List V} (M : Mk X.K (He.ga X.K c) f) (F : FnA X.prog X.w X.K X.mg X.base k f ks m) (hr : Room (k + 1) X.A) (hx : Passes (L2.CX X.prog X.w) X E)
    (I : Inv X pins σ H s) (r : Vals vs us) (rz : Vals zs us2) (hl : us2.length = ks.length) (h : tMkA X.K (He.ga X.K c) m E Q (vs ++ zs) H) : wpAny (model X.prog X.w) X.A (call (.ref (He.ga X.K c)) us (ks.zip us2)) (EP X pins σ Q) X.xe s := by
  have hq := h (s.heap.objs.size + 1) s.heap.objs.size (I.hok.fresh (Nat.le_succ _)) (I.hok.fresh (Nat.le_refl _)) (Nat.ne_of_lt (Nat.lt_succ_self _))
  have J := Inv.made (C := He.ga X.K c) I
  refine wpAny_call (make_map (f := f) I.kIn M.makes M.init (beq_iff_eq.mp M.fn) (codeAny_mono (F _ X.stack _ _ (Value.ref (s.heap.objs.size + 1) :: us) us2 (V.ref (s.heap.objs.size + 1) :: vs) zs _ E (hr.make (He.ga X.K c) us (ks.zip us2))
    (J.env0.make (He.ga X.K c) us (ks.zip us2)) (.cons rfl r) rz hl hq) fun r' s' hq' => ?_))
  cases r' with
  | error e => exact hx pins σ _ _ e s' J hq'
  | ok fl =>
    cases fl with
    | ret u =>
      obtain ⟨v, H', I3, rv, ev, q3⟩ := J.after hq'
      subst ev
      exact ⟨rv, ⟨V.ref (s.heap.objs.size + 1), H', I3, rfl, q3⟩⟩
    | next => exact False.elim hq'
    | brk => exact False.elim hq'
    | cont => exact False.elim hq'
/-- what is wanted of the maker -/
theorem mk_ev {K : PySem.W.Frag} {kp : Bool} {ws : List Ce} {G H : Hp} {as : List Addr} {ds : List D} {vs : List V} {Q : VK} (W : Wd K G H as ws) (rs : Reps K as G ds vs) (P : Post K E (Rep K) G H as (mkR kp c m ds ws) Q) : tMkA K (He.ga K c) m E Q vs H := by
  intro x dx hx hdx hne
  have P' : Post K E (Rep K) G H as ((m (.cell ws.length :: ds) (ws ++ [.ins c [] []])).bind fun z ws2 => match z with
      | .non => .ok (.cell ws.length) ws2
      | _ => .bad) Q := by
    unfold mkR at P
    dsimp only at P
    split at P
    · exact P
    · exact frz_post W P
  have W1 := W.newH (o := .own x) hdx
  have hx1 : upd H dx (.own x) x = none := by rw [upd_ne (Ne.symm hne)]; exact hx
  have r1 := Rch.newH (as := as) (G := G) (o := .own x) hdx
  have r2 := Rch.cell (as := as) (G := G) (H := upd H dx (.own x)) (o := .ins (He.ga K c) dx []) hx1
  have W2 := W1.cell (c := .ins c [] []) (o := .ins (He.ga K c) dx []) hx1 ⟨dx, [], rfl, rfl, Reps.nil⟩
  refine ⟨G, as ++ [x], ws ++ [.ins c [] []], .cell ws.length :: ds, W2, Reps.cons (rep_cell W) (rs.up (prefix_snoc _ _) (Same.refl _)), ?_⟩
  refine Post.bind0 P' (r1.trans r2) fun z ws2 vz G1 H1 as1 q1 w1 rz P1 => ?_
  cases z with
  | non =>
    simp only [Rep] at rz
    refine ⟨rz, P1 _ G1 H1 as1 ((r1.trans r2).trans q1) w1 ?_⟩
    exact (rep_cell W).up q1.pre q1.up
  | _ => exact False.elim P1
end
structure AK (K : PySem.W.Frag) (X : Cx) (E : XK) (kws : List Keyword) (tk : TA) (f : Sa) : Prop where
  hK : X.K = K
  pe : PK X kws tk
  ev : EvA K E tk f
section
variable {K : PySem.W.Frag} {X : Cx} {E : XK} {e : Expr} {es : List Expr} {kws : List Keyword} {te : TE} {t tk : TA} {se : Se} {sa sk : Sa} {nm : Option Str} {kpos p pos sp_ : Pos} {k : Nat} {f : Addr} {ks : List Str} {m : Mf} {c x : Str} {kp : Bool}
theorem ak_nil (hK : X.K = K := by rfl) : AK K X E [] tNil sNil := ⟨hK, pk_nil, evNil⟩
theorem ak_cons (he : AE K X E e te se) (hr : AK K X E kws tk sk) : AK K X E (⟨nm, e, kpos⟩ :: kws) (tCons te tk) (sCons se sk) := by
  refine ⟨he.hK, pk_cons he.pe hr.pe, fun ρ ws G H as σ Q W S P => he.ev ρ ws G H as σ _ W S (Post.bind P fun x ws1 bx G1 H1 as1 r1 W1 rx P1 => ?_)⟩
  refine hr.ev ρ ws1 G1 H1 as1 σ _ W1 (S.up r1.pre r1.up) (Post.bind P1 fun xs ws2 vs G2 H2 as2 r2 W2 rs P2 => ?_)
  exact Post.done P2 W2 (Reps.cons (rx.up r2.pre r2.up) rs)
def sMk (kp : Bool) (c : Str) (m : Mf) (a b : Sa) : Se := fun ρ ws => (a ρ ws).bind fun ds ws1 => (b ρ ws1).bind fun zs ws2 => mkR kp c m (ds ++ zs) ws2
def tMk (K : PySem.W.Frag) (C : Addr) (n : Nat) (m : Mf) (E : XK) (t tk : TA) : TE := fun σ H Q => t σ H fun vs H1 => tk σ H1 fun zs H2 => zs.length = n ∧ tMkA K C m E Q (vs ++ zs) H2
/-- what making needs -/
structure MkC (X : Cx) (k : Nat) (E : XK) (x c : Str) (ks : List Str) (m : Mf) : Prop where
  ok : ∃ f, Mk X.K (He.ga X.K c) f ∧ FnA X.prog X.w X.K X.mg X.base k f ks m
  mg : X.mg x = some (.ref (He.ga X.K c))
  px : Passes (L2.CX X.prog X.w) X E
theorem ev_mk {n : Nat} (h1 : EvA K E t sa) (h2 : EvA K E tk sk) (hn : ∀ ρ ws l ws', sk ρ ws = .ok l ws' → l.length = n) : EvE K E (tMk K (He.ga K c) n m E t tk) (sMk kp c m sa sk) := fun ρ ws G H as σ Q W S P => by
  refine h1 ρ ws G H as σ _ W S (Post.bind P fun ds ws1 vs G1 H1 as1 r1 W1 rs P1 => ?_)
  cases q : sk ρ ws1 with
  | bad =>
    rw [q] at P1
    exact False.elim P1
  | ex e w' =>
    refine h2 ρ ws1 G1 H1 as1 σ _ W1 (S.up r1.pre r1.up) ?_
    rw [q] at P1 ⊢
    exact P1
  | ok l w' =>
    refine h2 ρ ws1 G1 H1 as1 σ _ W1 (S.up r1.pre r1.up) ?_
    have hl := hn ρ ws1 l w' q
    rw [q] at P1 ⊢
    intro zs G2 H2 as2 r2 W2 rz
    exact ⟨by rw [← rz.len]; exact hl, mk_ev W2 ((rs.up r2.pre r2.up).app rz) (Post.from P1 r2)⟩
theorem ae_mk (M : MkC X k E x c ks m) (hr : Room (k + 1) X.A) (ha : AA K X E (e :: es) t sa) (hk : AK K X E kws tk sk) (hn : ∀ ρ ws l ws', sk ρ ws = .ok l ws' → l.length = ks.length) (hg : Gl X x := by rfl)
    (hall : (backToKw pos (keywordEach kws X.env)).all (·.1.isSome) = true := by rfl) (hks : (backToKw pos (keywordEach kws X.env)).filterMap (·.1) = ks := by rfl) (hdb : (x == ("__debug__" : Str)) = false := by decide)
    (he : starEach (e :: es) X.env = (false, eval e X.env) :: starEach es X.env := by rfl) (hpl : ((backTo pos (starEach (e :: es) X.env)).any (·.1) || (backToKw pos (keywordEach kws X.env)).any (·.1.isNone)) = false := by rfl) :
    AE K X E (.Call (.Name x p) (e :: es) kws pos) (tMk K (He.ga K c) ks.length m E t tk) (sMk kp c m sa sk) := by
  have e0 := ha.hK
  subst e0
  obtain ⟨f, Mf', F⟩ := M.ok
  refine ⟨rfl, ⟨fun pins s σ H Q I h => wpAny_Call_Name_kw (ld_glob I hg M.mg ?_ hdb)⟩, ev_mk ha.ev hk.ev hn⟩
  refine PySem.W.callWith_KW (h₀ := X.base) I.ok.mod.kin Mf'.kp hall (thn (ha.pe.run pos pins s σ H _ I h) fun us s1 ⟨vs, H1, I1, r, q⟩ => ?_) hpl he
  refine thn (hk.pe.run pos pins s1 σ H1 _ I1 q) fun us2 s2 ⟨zs, H2, I2, rz, l2, q2⟩ => ⟨I2.kIn, ?_⟩
  rw [hks]
  exact run_mk Mf' F hr M.px I2 r rz (by rw [← rz.length]; exact l2) q2
theorem ae_mk0 (M : MkC X k E x c ks m) (hr : Room (k + 1) X.A) (hk : AK K X E kws tk sk) (hn : ∀ ρ ws l ws', sk ρ ws = .ok l ws' → l.length = ks.length) (hg : Gl X x := by rfl)
    (hall : (backToKw pos (keywordEach kws X.env)).all (·.1.isSome) = true := by rfl) (hks : (backToKw pos (keywordEach kws X.env)).filterMap (·.1) = ks := by rfl) (hdb : (x == ("__debug__" : Str)) = false := by decide)
    (hpl : ((backTo pos (starEach [] X.env)).any (·.1) || (backToKw pos (keywordEach kws X.env)).any (·.1.isNone)) = false := by rfl) :
    AE K X E (.Call (.Name x p) [] kws pos) (tMk K (He.ga K c) ks.length m E tNil tk) (sMk kp c m sNil sk) := by
  have e0 := hk.hK
  subst e0
  obtain ⟨f, Mf', F⟩ := M.ok
  refine ⟨rfl, ⟨fun pins s σ H Q I h => wpAny_Call_Name_kw (ld_glob I hg M.mg ?_ hdb)⟩, ev_mk evNil hk.ev hn⟩
  refine PySem.W.callWith_KW0 (h₀ := X.base) I.ok.mod.kin Mf'.kp hall ?_ hpl
  refine thn (hk.pe.run pos pins s σ H _ I h) fun us2 s2 ⟨zs, H2, I2, rz, l2, q2⟩ => ⟨I2.kIn, ?_⟩
  rw [hks]
  exact run_mk (us := []) (vs := []) Mf' F hr M.px I2 .nil rz (by rw [← rz.length]; exact l2) q2
end
end RL
set_option Elab.async false
set_option linter.all false
set_option maxRecDepth 100000
/-! RL12: new instances from starred arguments; properties; classmethods. -/
namespace RL
open PySem PySem.Spec PyProof.Rows L2
section
variable {M : Model} {A : Around} {E : Value → Shared → Prop} {s : Shared}
open PySem.W in
/-- one starred argument, then values by name: its items are taken last -/
theorem lone_kw {f : Value} {x : Sem Value} {pos : Pos} {kws : List (Option Str × Sem Value)} {Q : Args → Shared → Prop} (hall : kws.all (·.1.isSome) = true)
    (h : wpAny M A x (fun v s₁ => wpAny M A (evalAll (kws.map (·.2))) (fun zs s₂ => StarOf M A E v (fun vs s₃ => Q ⟨vs, (kws.filterMap (·.1)).zip zs⟩ s₃) s₂) E s₁) E s) :
    wpAny M A (evalArgs f true [(true, (do let v ← x; standAt pos; pure v))] kws) Q E s := by
  unfold evalArgs
  refine wpAny_bind (wpAny_bind (wpAny_mono h (fun v s₁ h₁ => ?_) fun _ _ x => x))
  refine wpAny_bind (wpAny_standAt (wpAny_pure (wpAny_bind (wpAny_pure ?_))))
  refine wpAny_holding ?_
  dsimp only
  rw [if_pos hall]
  refine wpAny_bind (wpAny_mono h₁ (fun zs s₂ h₂ => ?_) fun _ _ x => x)
  unfold StarOf at h₂
  refine wpAny_bind ?_
  refine wpAny_bind (wpAny_mono h₂ (fun b s₃ h₃ => ?_) fun _ _ x => x)
  obtain ⟨rfl, h₃⟩ := h₃
  simp only [Bool.false_eq_true, if_false]
  exact wpAny_holding (wpAny_mono h₃ (fun vs s₄ h₄ => wpAny_pure h₄) fun _ _ x => x)
open PySem.W in
theorem call_starred {f : Value} {first : List Value} {pos : Pos} {Q : Value → Shared → Prop} {P : Heap → Prop} {args : List (Bool × Sem Value)} {kws : List (Option Str × Sem Value)} (hst : args.any (·.1) = true)
    (hk : ∀ h, P h → ∃ k, (k = Keeper.frame ∨ k = Keeper.machine ∨ k = Keeper.boundFrame) ∧ Looks M h (keeperOf f) k)
    (h : wpAny M A (evalArgs f true args kws) (fun a s₁ => P s₁.heap ∧ wpAny M A (call f (first ++ a.pos) a.kw) Q E s₁) E s) : wpAny M A (callWith pos f first args kws) Q E s := by
  unfold callWith
  refine wpAny_bind (wpAny_holding (wpAny_mono h (fun a s₁ h₁ => wpAny_bind (wpAny_standAt ?_)) fun _ _ x => x))
  obtain ⟨k, hk', L⟩ := hk _ h₁.1
  simp only [hst, Bool.true_or]
  refine wpAny_bind (L.here ?_)
  have last : ∀ {t : Sem Value}, wpAny M A t Q E s₁ → wpAny M A (t >>= fun r => holding [r] point >>= fun _ => pure r) Q E s₁ := fun ht =>
    wpAny_bind (wpAny_mono ht (fun r s₂ hr => wpAny_bind (wpAny_holding (wpAny_point (wpAny_pure hr)))) fun _ _ x => x)
  have mark : ∀ mk : Value, wpAny M A (callMarked mk f (first ++ a.pos) a.kw) Q E s₁ := fun mk => by
    unfold callMarked
    exact Calls.wpAny_keep h₁.2
  rcases hk' with rfl | rfl | rfl <;> dsimp only <;> first | exact last (mark _) | exact last (wpAny_operating h₁.2)
end
section
variable {K : PySem.W.Frag} {X : Cx} {E : XK} {e : Expr} {kws : List Keyword} {te : TE} {tk : TA} {se : Se} {sk : Sa} {p pos sp_ : Pos} {k : Nat} {ks : List Str} {m : Mf} {c x : Str} {kp : Bool}
def sMkS (kp : Bool) (c : Str) (m : Mf) (a : Se) (b : Sa) : Se := fun ρ ws => (a ρ ws).bind fun d ws1 => (b ρ ws1).bind fun zs ws2 => match seqOf ws2 d with
  | some l => mkR kp c m (l ++ zs) ws2
  | none => .bad
def tMkS (K : PySem.W.Frag) (C : Addr) (n : Nat) (m : Mf) (E : XK) (te : TE) (tk : TA) : TE := fun σ H Q => te σ H fun v H1 => tk σ H1 fun zs H2 => zs.length = n ∧ ∃ a xs, v = .ref a ∧ (SqT K H2 a xs ∨ SqL K H2 a xs) ∧ tMkA K C m E Q (xs ++ zs) H2
theorem ae_mkS (M : MkC X k E x c ks m) (hr : Room (k + 1) X.A) (he : AE K X E e te se) (hk : AK K X E kws tk sk) (hn : ∀ ρ ws l ws', sk ρ ws = .ok l ws' → l.length = ks.length) (hg : Gl X x := by rfl)
    (hall : (backToKw pos (keywordEach kws X.env)).all (·.1.isSome) = true := by rfl) (hks : (backToKw pos (keywordEach kws X.env)).filterMap (·.1) = ks := by rfl) (hdb : (x == ("__debug__" : Str)) = false := by decide)
    (hst : starEach [.Starred e sp_] X.env = [(true, eval e X.env)] := by rfl) :
    AE K X E (.Call (.Name x p) [.Starred e sp_] kws pos) (tMkS K (He.ga K c) ks.length m E te tk) (sMkS kp c m se sk) := by
  have e0 := he.hK
  subst e0
  obtain ⟨f, Mf', F⟩ := M.ok
  refine ⟨rfl, ⟨fun pins s σ H Q I h => wpAny_Call_Name_kw (ld_glob I hg M.mg ?_ hdb)⟩, fun ρ ws G H as σ Q W S P => ?_⟩
  · rw [hst]
    refine call_starred (P := fun h => X.K.In h) rfl (PySem.W.keeps_K Mf'.kp) (lone_kw hall ?_)
    refine thn (he.pe.run pins s σ H _ I h) fun v s1 ⟨y, H1, I1, ry, q⟩ => ?_
    refine thn (hk.pe.run pos pins s1 σ H1 _ I1 q) fun us2 s2 ⟨zs, H2, I2, rz, l2, a, xs, ey, hxs, q2⟩ => ?_
    subst ey
    obtain rfl : v = Value.ref a := ry
    refine StX.star_any I2 hxs fun us s3 I3 rv => ⟨I3.kIn, ?_⟩
    rw [hks]
    exact run_mk Mf' F hr M.px I3 rv rz (by rw [← rz.length]; exact l2) q2
  · refine he.ev ρ ws G H as σ _ W S (Post.bind P fun d ws1 v G1 H1 as1 r1 W1 rd P1 => ?_)
    cases q : sk ρ ws1 with
    | bad =>
      rw [q] at P1
      exact False.elim P1
    | ex e w' =>
      refine hk.ev ρ ws1 G1 H1 as1 σ _ W1 (S.up r1.pre r1.up) ?_
      rw [q] at P1 ⊢
      exact P1
    | ok l w' =>
      refine hk.ev ρ ws1 G1 H1 as1 σ _ W1 (S.up r1.pre r1.up) ?_
      have hl := hn ρ ws1 l w' q
      rw [q] at P1 ⊢
      intro zs G2 H2 as2 r2 W2 rz
      refine ⟨by rw [← rz.len]; exact hl, ?_⟩
      rw [R.bind_ok] at P1
      cases qs : seqOf w' d with
      | none =>
        rw [qs] at P1
        exact False.elim P1
      | some l2 =>
        rw [qs] at P1
        obtain ⟨a, xs, e1, e2, e3⟩ := seq_rep W2 qs (rd.up r2.pre r2.up)
        exact ⟨a, xs, e1, e2.symm, mk_ev W2 (e3.app rz) (Post.from P1 r2)⟩
end
/-! ### properties -/
/-- e.f, a property that m answers -/
structure PrC (X : Cx) (k : Nat) (c f : Str) (m : Mf) : Prop where
  ok : ∃ p g fd ps, PropOf X.K (He.ga X.K c) f p g ∧ FnOk X.prog X.w X.K X.mg X.base (L2.CX X.prog X.w) k g fd ps (spM X.K m) ∧ Binds X.K fd ps []
  cl : Cls X.K (He.ga X.K c)
def sProp (c : Str) (m : Mf) (a : Se) : Se := fun ρ ws => (a ρ ws).bind fun x ws1 => if isIns c ws1 x = true then nox (m [x] ws1) else .bad
section
variable {K : PySem.W.Frag} {X : Cx} {E : XK} {e : Expr} {es : List Expr} {te : TE} {se : Se} {ta : TA} {sa : Sa} {pos p apos : Pos} {k : Nat} {m : Mf} {c f x : Str}
theorem ae_prop (C : PrC X k c f m) (hr : Room (k + 1) X.A) (h : AE K X E e te se) (hb : attributeBase e f X.env (eval e X.env) = eval e X.env := by rfl) : AE K X E (.Attribute e f pos) (tProp (He.ga K c) (spM K m) [] E0 te) (sProp c m se) := by
  have e0 := h.hK
  subst e0
  obtain ⟨pp, g, fd, ps, h1, h2, h3⟩ := C.ok
  refine ⟨rfl, pe_prop h.pe C.cl h1 h2 hr h3 .nil pass_nox hb, fun ρ ws G H as σ Q W S P => h.ev ρ ws G H as σ _ W S (Post.bind P fun d ws1 v G1 H1 as1 r1 W1 rd P1 => ?_)⟩
  split at P1
  · rename_i hi
    obtain ⟨⟨kk, l⟩, hk⟩ := Option.isSome_iff_exists.mp hi
    obtain ⟨a, dx, vs, e1, e2, e3, e4⟩ := ins_rep W1 hk rd
    subst e1
    exact ⟨a, dx, _, rfl, e2, G1, as1, ws1, [d], W1, Reps.one rd, nox_post P1⟩
  · exact False.elim P1
/-! ### classmethods -/
/-- C.mth(..) does m (behind the class itself) -/
structure CmC (X : Cx) (k : Nat) (E : XK) (x c mth : Str) (m : Mf) : Prop where
  ok : ∃ mc p g fd ps, ClX.CRead X.K (He.ga X.K c) mc ∧ ClX.CMet X.K (He.ga X.K c) mc mth p g ∧ FnOk X.prog X.w X.K X.mg X.base (L2.CX X.prog X.w) k g fd ps (spM X.K m) ∧ Binds X.K fd ps []
  mg : X.mg x = some (.ref (He.ga X.K c))
  px : Passes (L2.CX X.prog X.w) X E
theorem fnr_of {P : Program} {w : World} {K : PySem.W.Frag} {mg : Str → Option Value} {base : Heap} {k : Nat} {f : Addr} {fd : FuncData} {ps : List Str} {m : Mf} (F : FnOk P w K mg base (L2.CX P w) k f fd ps (spM K m)) (hb : Binds K fd ps []) : FnR P w K mg base (L2.CX P w) k f (spM K m) := by
  intro A outer s H us vs Q E hr e0 r h
  have z := fna_of F hb A outer s H us [] vs [] Q E hr e0 r .nil rfl (by rw [List.append_nil]; exact h)
  exact z
def sCm (c : Str) (m : Mf) (a : Sa) : Se := fun ρ ws => (a ρ ws).bind fun ds ws1 => m (.cls c :: ds) ws1
theorem ae_cm {pl : Sem Bool} {mth : Str} {np : Pos} (C : CmC X k E x c mth m) (hr : Room k X.A) (ha : AA K X E (e :: es) ta sa) (hg : Gl X x := by rfl) (hdb : (x == ("__debug__" : Str)) = false := by decide)
    (hst : starEach (e :: es) X.env = (false, eval e X.env) :: starEach es X.env := by rfl) (hpl : (backTo pos (starEach es X.env)).any (·.1) = false := by rfl)
    (ht : eval (.Call (.Attribute (.Name x np) mth apos) (e :: es) [] pos) X.env = (do
      let ov ← eval (.Name x np) X.env
      standAt apos.atName
      let (f, first) ← holding [ov] (getMethod ov mth pl)
      callWith pos f first (backTo pos (starEach (e :: es) X.env)) (backToKw pos (keywordEach [] X.env))) := by rfl) :
    AE K X E (.Call (.Attribute (.Name x np) mth apos) (e :: es) [] pos) (ClX.tCMeth (He.ga K c) (spM K m) E (tC (.ref (He.ga K c))) ta) (sCm c m sa) := by
  have e0 := ha.hK
  subst e0
  obtain ⟨mc, pp, g, fd, ps, h1, h2, h3, h4⟩ := C.ok
  refine ⟨rfl, ClX.pe_cmeth (pe_glob hg C.mg rfl hdb) h1 h2 (fnr_of h3 h4) hr C.px ha.pe hst hpl ht, fun ρ ws G H as σ Q W S P => ⟨rfl, ha.ev ρ ws G H as σ _ W S (Post.bind P fun ds ws1 vs G1 H1 as1 r1 W1 rs P1 => ?_)⟩⟩
  exact ⟨G1, as1, ws1, .cls c :: ds, W1, Reps.cons (by simp [Rep]) rs, P1⟩
end
end RL
set_option Elab.async false
set_option linter.all false
set_option maxRecDepth 100000
/-! RL13: what an own __iter__ (iter of a tuple field) gives, in list(x) and [*x]. -/
namespace RL
open PySem PySem.Spec PyProof.Rows L2
/-- at it an iterator over the tuple at t, the next place is i -/
def TIt (t it : Addr) (i : Nat) : HO := .ext fun h => h.IsTupleIter it t i
/-- something stands there -/
def TAny (it : Addr) : HO := .ext fun h => ∃ o, h.get? it = some o
theorem tit_ok {P : Program} {w : World} {H : Hp} {h : Heap} {t it : Addr} {i : Nat} (e : h.IsTupleIter it t i) : ObjOk P w H h it (TIt t it i) := ⟨e, let ⟨o, q, _⟩ := e; ⟨o, q⟩, fun h1 h2 ⟨o, q, r⟩ k => ⟨o, k o q, r⟩⟩
theorem tany_ok {P : Program} {w : World} {H : Hp} {h : Heap} {it : Addr} (e : ∃ o, h.get? it = some o) : ObjOk P w H h it (TAny it) := ⟨e, e, fun h1 h2 ⟨o, q⟩ k => ⟨o, k o q⟩⟩
theorem tit_get {X : Cx} {pins : List (Addr × Obj)} {σ : L2.St} {H : Hp} {s : Shared} {t it : Addr} {i : Nat} (I : Inv X pins σ H s) (e : H it = some (TIt t it i)) : s.heap.IsTupleIter it t i := (I.hok it _ e).1
theorem tit_code {X : Cx} {pins : List (Addr × Obj)} {σ : L2.St} {H : Hp} {s : Shared} {t it : Addr} {i : Nat} (I : Inv X pins σ H s) (e : H it = some (TIt t it i)) (q : Str) : TIt t it i ≠ LamX.CodeO it q := fun z => by
  have h1 := tit_get I e
  rw [z] at e
  obtain ⟨⟨oc, vs, tk, f1, f2, f3⟩, _⟩ := I.hok it _ e
  obtain ⟨o, g1, g2⟩ := h1
  rw [f1] at g1
  cases g1
  rw [f2] at g2
  have g3 := g2.2
  cases g3
  simp at f3
def rIterT (K : PySem.W.Frag) : List V → Hp → VK → Prop := fun xs H Q => ∃ (t : Addr) (zs : List V), xs = [.ref t] ∧ SqT K H t zs ∧ ∀ it, H it = none → Q (.ref it) (upd H it (TIt t it 0))
theorem call_iterT {X : Cx} : CallR X (.builtin "iter") (rIterT X.K) := by
  intro pins s σ H xs us Q I r h
  obtain ⟨t, zs, rfl, hq, q⟩ := h
  obtain rfl := Vals.ref1 r
  obtain ⟨its, rv, pl, hz⟩ := I.tuple hq
  refine Calls.call_function_entry (by decide +kernel) (by decide +kernel) PySem.W.kdk_entry_iter (PySem.W.kdk_args_iter _) ?_
  unfold Builtin.«iter»
  refine wpAny_bind (m := someArgs "iter" 1 2 _) (wpAny_of_eq (a := [Value.ref t]) (by first | rfl | kernel_rfl!) (wpAny_bind (m := pyIter (.ref t)) (wpAny_pyIter_tuple pl (wpAny_pure ⟨_, rfl, ?_⟩))))
  exact ⟨.ref s.heap.objs.size, _, I.laid (t' := s.toks) (fun b u e => Heap.get?_push_of_some _ e) (Nat.le_refl _) (tit_ok ⟨_, Heap.get?_push_size _ rfl, rfl, rfl⟩), rfl, q _ (I.hok.fresh (Nat.le_refl _))⟩
section
variable {prog : Program} {w : World} {A : Around} {E : Value → Shared → Prop} {s : Shared}
/-- a tuple's iterator ends; it still stands there -/
theorem next_endT {it t : Addr} {i : Nat} {items : Array Value} {Q : Option Value → Shared → Prop} (hh : A.handled = none) (hit : s.heap.IsTupleIter it t i) (ht : s.heap.IsTuple t items) (hx : items[i]? = none)
    (hQ : ∀ h', (∃ o, h'.get? it = some o) → Heap.ExtBut it s.heap h' → Q none { s with heap := h' }) : wpAny (model prog w) A (pyNext (.ref it)) Q E s := by
  obtain ⟨o, ho, hc, hd⟩ := id hit
  obtain ⟨ol, hol, _, nl, hdl⟩ := ht
  have fd0 : ∀ {R : Value → Shared → Prop} {B : Around} {E' : Value → Shared → Prop}, R (.ref t) s → wpAny (model prog w) B (field (.ref it) 0) R E' s := fun q => wpAny_field ho hd (x := .ref t) rfl q
  have fd1 : ∀ {R : Value → Shared → Prop} {B : Around} {E' : Value → Shared → Prop}, R (.int i 0) s → wpAny (model prog w) B (field (.ref it) 1) R E' s := fun q => wpAny_field ho hd (x := .int i 0) rfl q
  unfold pyNext
  refine wpAny_bind (wpAny_attempt (wpAny_callSpecial?_slot (name := Str.ofString "__next__") hit.typeIs F.slot_tuple_iterator_next (wpAny_call_entry F.slot_tuple_iterator_next hit.typeIs F.entry_tuple_iterator_next ?_ (F.args_tuple_iterator_next_1 _))))
  show wpAny _ _ (field (.ref it) 0 >>= _) _ _ s
  refine wpAny_bind (fd0 ?_)
  show wpAny _ _ (if (Value.ref t == Value.none) = true then _ else _) _ _ s
  rw [if_neg (show ¬ ((Value.ref t == Value.none) = true) from Bool.false_ne_true)]
  show wpAny _ _ (field (.ref it) 1 >>= _) _ _ s
  refine wpAny_bind (fd1 ?_)
  show wpAny _ _ (seqItems? (.ref t) >>= _) _ _ s
  refine wpAny_bind (wpAny_seqItems hol hdl ?_)
  simp only [Int.toNat_natCast, hx]
  refine wpAny_bind (wpAny_rule (wpAny_bind (wpAny_setField ho hd (by simp) ?_)))
  show wpAny _ _ (newExc (.type "StopIteration") [] >>= _) _ _ _
  refine wpAny_bind ?_
  simp only [newExc, newTuple]
  refine wpAny_bind (wpAny_newObj_type (wpAny_bind (m := firstArgMember _ _) (wpAny_of_eq (a := Value.none) (by first | rfl | (simp only [firstArgMember]; rfl)) (wpAny_newObj_type ?_ (by size_fits)))) (by size_fits))
  simp only [raiseNew]
  refine wpAny_bind (wpAny_handled ?_)
  first | rw [show A.in1.handled = none from hh] | rw [hh]
  refine wpAny_bind (wpAny_pure (wpAny_throw (wpAny_bind ?_)))
  refine wpAny_isInstance (b := true) (T := "StopIteration") ⟨_, Heap.get?_push_size _ rfl, rfl⟩ isSubtype_stop ?_
  refine wpAny_pure (hQ _ ?_ (((Heap.SameBut.update ..).extBut.push _).push _))
  exact ⟨_, Heap.get?_push_of_some _ (Heap.get?_push_of_some _ (Heap.get?_update_self _ ho (Obj.isFreed_of_fields (Obj.data_mapFields hd _))))⟩
end
section
variable {X : Cx} {pins : List (Addr × Obj)} {σ : L2.St} {A1 : Around} {Rs : Result → Shared → Prop}
/-- the loop that fills the list at q from the iterator -/
theorem fill_loop {t it q : Addr} {xs : List V} {res : Value} (hh : A1.in1.handled = none) {H2 : Hp} (hqi : q ≠ it) (hti : t ≠ it) (htq : t ≠ q) (ht : SqT X.K H2 t xs) (hz : xs.length ≤ sizeLine)
    (done : ∀ s, Inv X pins σ (upd (upd H2 it (TAny it)) q (.lst xs)) s → Rs (.ok (.ret res)) s) :
    ∀ (k i : Nat) (s : Shared), xs.length - i = k → i ≤ xs.length → Inv X pins σ (upd (upd H2 it (TIt t it i)) q (.lst (xs.take i))) s → codeAny (model X.prog X.w) A1 (.builtin "list.extend.loop" ⟨[.ref q, .ref it, res], []⟩) Rs s := by
  intro k
  induction k with
  | zero =>
    intro i s hk hi I
    have hin : i = xs.length := by omega
    subst hin
    have e1 : upd (upd H2 it (TIt t it xs.length)) q (.lst (xs.take xs.length)) it = some (TIt t it xs.length) := by rw [upd_ne (Ne.symm hqi), upd_same]
    have ht' : SqT X.K (upd (upd H2 it (TIt t it xs.length)) q (.lst (xs.take xs.length))) t xs := by
      rcases ht with (h | ⟨o, h⟩) | h
      · exact .inl (.inl (by rw [upd_ne htq, upd_ne hti]; exact h))
      · exact .inl (.inr ⟨o, by rw [upd_ne htq, upd_ne hti]; exact h⟩)
      · exact .inr h
    obtain ⟨its, rv, p, _⟩ := I.tuple ht'
    refine codeAny_builtin PySem.F.entry_extend_loop ?_
    rw [Around.under_plainId PySem.F.plain_extend_loop _]
    show wpAny _ A1.in1 (pyNext (.ref it) >>= _) _ _ s
    refine wpAny_bind (next_endT hh (tit_get I e1) p (by have := rv.length; simp; omega) fun h' ex eb => wpAny_pure (done _ ?_))
    have J := I.write (x := it) (e := it) (o := TAny it) (t' := s.toks) (by rw [e1]; exact True.intro) (.inl rfl) (fun b o nb z => eb b o nb z) ex (tany_ok ex)
    have : upd (upd (upd H2 it (TIt t it xs.length)) q (.lst (xs.take xs.length))) it (TAny it) = upd (upd H2 it (TAny it)) q (.lst xs) := by
      funext b
      by_cases hb : b = it
      · rw [hb, upd_same, upd_ne (Ne.symm hqi), upd_same]
      · by_cases hb2 : b = q
        · rw [hb2, upd_ne hqi, upd_same, upd_same, List.take_length]
        · rw [upd_ne hb, upd_ne hb2, upd_ne hb, upd_ne hb2, upd_ne hb]
    rw [this] at J
    exact J
  | succ k ih =>
    intro i s hk hi I
    have hlt : i < xs.length := by omega
    have e1 : upd (upd H2 it (TIt t it i)) q (.lst (xs.take i)) it = some (TIt t it i) := by rw [upd_ne (Ne.symm hqi), upd_same]
    have ht' : SqT X.K (upd (upd H2 it (TIt t it i)) q (.lst (xs.take i))) t xs := by
      rcases ht with (h | ⟨o, h⟩) | h
      · exact .inl (.inl (by rw [upd_ne htq, upd_ne hti]; exact h))
      · exact .inl (.inr ⟨o, by rw [upd_ne htq, upd_ne hti]; exact h⟩)
      · exact .inr h
    obtain ⟨its, rv, p, _⟩ := I.tuple ht'
    obtain ⟨u, hu, ru⟩ := rv.get (List.getElem?_eq_getElem hlt)
    refine codeAny_builtin PySem.F.entry_extend_loop ?_
    rw [Around.under_plainId PySem.F.plain_extend_loop _]
    show wpAny _ A1.in1 (pyNext (.ref it) >>= _) _ _ s
    refine wpAny_bind (wpAny_pyNext_tuple_item (tit_get I e1) p (x := u) (by simpa using hu) fun h' st' sb => ?_)
    have J := I.write (x := it) (e := it) (o := TIt t it (i + 1)) (t' := s.toks) (by rw [e1]; exact True.intro) (.inl rfl) (fun b o nb z => (sb.2 b nb).trans z) (let ⟨o, z, _⟩ := st'; ⟨o, z⟩) (tit_ok st')
    have e2 : upd (upd (upd H2 it (TIt t it i)) q (.lst (xs.take i))) it (TIt t it (i + 1)) q = some (.lst (xs.take i)) := by rw [upd_ne hqi, upd_same]
    obtain ⟨z, itq, c, rq, lq, eq⟩ := J.lstM e2
    show wpAny _ A1.in1 (updateSeq q (·.push u) >>= _) _ _ _
    refine wpAny_bind (wpAny_updateSeq eq rfl (wpAny_pure ⟨plainId_quiet PySem.F.plain_extend_loop _, ih (i + 1) _ (by omega) hlt ?_⟩) (by rw [List.size_toArray, ← lq, List.length_take]; omega) (by show (itq.toArray.push u).size ≤ sizeLine + 1; rw [Array.size_push, List.size_toArray, ← lq, List.length_take]; omega))
    have J2 := J.lset (f := (·.push u)) (its' := itq ++ [u]) (ys := xs.take i ++ [xs[i]]) (t' := s.toks) e2 eq (by simp) (rq.append (.cons ru .nil)) (by rw [List.length_append, List.length_take, List.length_singleton]; omega)
    have : upd (upd (upd (upd H2 it (TIt t it i)) q (.lst (xs.take i))) it (TIt t it (i + 1))) q (.lst (xs.take i ++ [xs[i]])) = upd (upd H2 it (TIt t it (i + 1))) q (.lst (xs.take (i + 1))) := by
      have hx : xs.take (i + 1) = xs.take i ++ [xs[i]] := by rw [List.take_succ, List.getElem?_eq_getElem hlt] <;> rfl
      rw [hx]
      funext b
      by_cases hb2 : b = q
      · rw [hb2, upd_same, upd_same]
      · rw [upd_ne hb2, upd_ne hb2]
        by_cases hb : b = it
        · rw [hb, upd_same, upd_same]
        · rw [upd_ne hb, upd_ne hb2, upd_ne hb, upd_ne hb]
    rw [this] at J2
    exact J2
end
/-! ### the own __iter__ -/
/-- its promise: an iterator over the tuple in the field f -/
def spIt (K : PySem.W.Frag) (C : Addr) (f : Str) : Sp := fun vs H Q _ => ∃ a dx fs t xs, vs = [.ref a] ∧ H a = some (.ins C dx fs) ∧ fs.lookup f = some (.ref t) ∧ SqT K H t xs ∧ ∀ it, H it = none → Q (.ref it) (upd H it (TIt t it 0))
structure Itr1 (X : Cx) (n : Nat) (E : XK) (c f : Str) (mLen : Mf) : Prop where
  it : ∃ fi fd ps, FnOk X.prog X.w X.K X.mg X.base (L2.CX X.prog X.w) n fi fd ps (spIt X.K (He.ga X.K c) f) ∧ PySem.W.findIn X.K (.ref (He.ga X.K c)) "__iter__" = some (some (.ref fi)) ∧ PySem.W.isFn X.K (.ref fi) = true ∧ Binds X.K fd ps []
  ln : Dun X n E c "__len__" mLen
/-- what it gives -/
def itemsO (c f : Str) (i : Nat) (mLen : Mf) (d : D) (ws : List Ce) : Option (List D) := match insOf ws c d with
  | some (ks, l) => if okI ks f i = true then (match l[i]? with
      | some (.tup m) => (match mLen [d] ws with
        | .ok (.int n) ws' => if ws' = ws ∧ 0 ≤ n ∧ n < 100000 ∧ m.length ≤ 100000 then some m else none
        | _ => none)
      | _ => none)
    else none
  | none => none
theorem itemsO_some {c f : Str} {i : Nat} {mLen : Mf} {d : D} {ws : List Ce} {m : List D} (h : itemsO c f i mLen d ws = some m) :
    ∃ ks l n, insOf ws c d = some (ks, l) ∧ okI ks f i = true ∧ l[i]? = some (.tup m) ∧ mLen [d] ws = .ok (.int n) ws ∧ (0 ≤ n ∧ n < 100000) ∧ m.length ≤ 100000 := by
  unfold itemsO at h
  split at h
  · rename_i ks l h1
    split at h
    · rename_i h2
      split at h
      · rename_i m' h3
        split at h
        · rename_i n ws' h4
          split at h
          · rename_i h5
            cases h
            exact ⟨ks, l, n, h1, h2, h3, by rw [h4, h5.1], ⟨h5.2.1, h5.2.2.1⟩, h5.2.2.2⟩
          · cases h
        · cases h
      · cases h
    · cases h
  · cases h
/-- an own def that raises nothing, called from below -/
theorem own_run0 {X : Cx} {n : Nat} {f : Addr} {fd : FuncData} {ps : List Str} {m : Mf} (F : FnOk X.prog X.w X.K X.mg X.base (L2.CX X.prog X.w) n f fd ps (spM X.K m)) (hb : Binds X.K fd ps []) {A : Around} {pins : List (Addr × Obj)} {s : Shared} {σ : L2.St} {H : Hp} {vs : List V} {us : List Value} {Q : VK}
    {Ex : Value → Shared → Prop} (sb : Sub X n A) (I : Inv X pins σ H s) (r : Vals vs us) (h : spM X.K m vs H Q E0) : wpAny (model X.prog X.w) A (call (.ref f) us) (EP X pins σ Q) Ex s := by
  have e0 : Env0 X.prog X.w X.K X.mg X.base A X.stack s H := by
    have z := I.env0
    exact ⟨by rw [sb.fr]; exact z.frames, z.mod, z.bs, z.bsz, z.funs, z.frf, z.hok, z.bare⟩
  have hl := F.len _ _ _ _ h
  refine wpAny_call (codeAny_mono (F.run A X.stack s H ⟨us, []⟩ us vs _ E0 sb.room e0 (by
    have z := hb s us I.kIn (by rw [List.append_nil, ← r.length]; exact hl)
    simpa using z) r h) fun r' s' hq => ?_)
  cases r' with
  | error e =>
    obtain ⟨_, _, _, _, _, _, _, _, _, _, _, _, z⟩ := hq
    exact z.elim
  | ok fl =>
    cases fl with
    | ret w => exact I.after hq
    | next => exact False.elim hq
    | brk => exact False.elim hq
    | cont => exact False.elim hq
section
variable {X : Cx} {n i : Nat} {E : XK} {c f : Str} {mLen : Mf} {pins : List (Addr × Obj)} {σ : L2.St}
theorem own_ext {A1 : Around} {Rs : Result → Shared → Prop} {H G : Hp} {as : List Addr} {ws : List Ce} {d : D} {m : List D} {a q : Addr} {s : Shared} {res : Value} (sb : Sub X (n + 1) A1.in1) (O : Itr1 X n E c f mLen) (I : Inv X pins σ H s) (W : Wd X.K G H as ws)
    (r : Rep X.K as G d (.ref a)) (hm : itemsO c f i mLen d ws = some m) (hq : H q = some (.lst [])) (hqa : q ∉ as) (hqG : G q = none)
    (done : ∀ s' G' H' as' xs, Inv X pins σ (upd H' q (.lst xs)) s' → Rch G H as G' H' as' → Wd X.K G' H' as' ws → Reps X.K as' G' m xs → Rs (.ok (.ret res)) s') :
    wpAny (model X.prog X.w) A1.in1 (Builtin.List.listExtendWith (.ref q) (.ref a) res) (fun fin s' => match fin with | .done fl => Rs (.ok fl) s' | .again c' => c'.quiet = true ∧ codeAny (model X.prog X.w) A1 c' Rs s') (fun e s' => Rs (.error e) s') s := by
  obtain ⟨ks, l, nn, h1, h2, h3, h4, h5, h6⟩ := itemsO_some hm
  obtain ⟨a', dx, vs, e1, e2, e3, e4⟩ := ins_rep W h1 r
  cases e1
  obtain ⟨v, e5, e6⟩ := e4.get h3
  simp only [Rep] at e6
  obtain ⟨t, xs, e7, e8, e9⟩ := e6
  subst e7
  have hqa' : q ≠ a := fun z => by
    rw [z, e2] at hq
    cases hq
  obtain ⟨mA, J, _⟩ := ins_get I.hok e2
  obtain ⟨od, J, _⟩ := J.look
  obtain ⟨mm, hF⟩ := I.fr
  obtain ⟨fi, fd, ps, FI, hs, hf, hb⟩ := O.it
  unfold Builtin.List.listExtendWith
  refine wpAny_bind (J.type.here ?_)
  have k1 : Builtin.List.listSameRef (.ref q) (.ref a) = false := by simp [Builtin.List.listSameRef, hqa']
  have k2 : (Value.ref (He.ga X.K c) == Value.type "list") = false := rfl
  have k3 : (Value.ref (He.ga X.K c) == Value.type "tuple") = false := rfl
  simp only [k1, k2, k3, Bool.or_false, Bool.false_eq_true, if_false]
  refine wpAny_bind (PySem.W.owit_iter hF I.ok.mod.kin J hs hf ?_)
  have sb0 : Sub X n A1.in1 := sb.mono (Nat.le_succ _)
  have e0 : Env0 X.prog X.w X.K X.mg X.base A1.in1 X.stack s H := by
    have z := I.env0
    exact ⟨by rw [sb.fr]; exact z.frames, z.mod, z.bs, z.bsz, z.funs, z.frf, z.hok, z.bare⟩
  have hsp : spIt X.K (He.ga X.K c) f [.ref a] H (fun v H' => ∃ it, v = .ref it ∧ H it = none ∧ H' = upd H it (TIt t it 0)) E0 := ⟨a, dx, _, t, xs, rfl, e2, lookup_zip h2 e5, .inl (.inl (W.le _ _ e8)), fun it hit => ⟨it, rfl, hit, rfl⟩⟩
  have hl := FI.len _ _ _ _ hsp
  refine wpAny_call (codeAny_mono (FI.run A1.in1 X.stack s H ⟨[.ref a], []⟩ [.ref a] [.ref a] _ E0 sb0.room e0 (by
    have z := hb s [.ref a] I.kIn (by simpa using hl)
    simpa using z) (.cons (show RelV (V.ref a) (Value.ref a) from rfl) .nil) hsp) fun r' s1 hq' => ?_)
  cases r' with
  | error e =>
    obtain ⟨_, _, _, _, _, _, _, _, _, _, _, _, z⟩ := hq'
    exact z.elim
  | ok fl =>
    cases fl with
    | next => exact False.elim hq'
    | brk => exact False.elim hq'
    | cont => exact False.elim hq'
    | ret u =>
      obtain ⟨vv, H1, I1, rv, it, ev, hit, eH⟩ := I.after hq'
      subst ev eH
      obtain rfl : u = Value.ref it := rv
      have hiq : q ≠ it := fun z => by
        rw [z, hit] at hq
        cases hq
      have W1 := W.newH (o := TIt t it 0) hit
      have r1 := Rch.newH (as := as) (G := G) (o := TIt t it 0) hit
      have g1 : upd H it (TIt t it 0) it = some (TIt t it 0) := upd_same
      have T1 := (tit_get I1 g1).typeIs
      unfold PySem.W.OwitIt
      refine wpAny_specialOf T1 F.slot_tuple_iterator_next.lookup ?_
      dsimp only
      have ea1 : upd H it (TIt t it 0) a = some (.ins (He.ga X.K c) dx (ks.zip vs)) := by rw [upd_ne (ne_of_none e2 hit)]; exact e2
      obtain ⟨mA1, J1, _⟩ := ins_get I1.hok ea1
      obtain ⟨od1, J1, _⟩ := J1.look
      obtain ⟨mm1, hF1⟩ := I1.fr
      obtain ⟨fl, fdl, psl, FL, hsl, hfl, _, hbl⟩ := O.ln.ok
      refine wpAny_bind (wpAny_holding ?_)
      unfold Builtin.List.listLengthHint
      refine wpAny_bind (wpAny_bind (J1.type.here ((PySem.W.looks_findIn I1.kIn hsl).here ?_)))
      refine PySem.W.KFB.if_not rfl (PySem.W.KFB.if_so rfl (wpAny_bind (wpAny_rule (wpAny_bind (wpAny_attempt ?_)))))
      have hlen : spM X.K mLen [.ref a] (upd H it (TIt t it 0)) (fun z H2 => z = .int nn ∧ ∃ G2 as2, Rch G (upd H it (TIt t it 0)) as G2 H2 as2 ∧ Wd X.K G2 H2 as2 ws) E0 := by
        refine ⟨G, as, ws, [d], W1, Reps.one r, ?_⟩
        rw [h4]
        exact fun z G2 H2 as2 q w rz => ⟨by simpa [Rep] using rz, G2, as2, q, w⟩
      refine PySem.W.len_K hF1 I1.ok.mod.kin J1 hsl hfl (wpAny_mono (own_run0 FL hbl (A := A1.in1.in1) (us := [.ref a]) sb.in1 I1 (.cons (show RelV (V.ref a) (Value.ref a) from rfl) .nil) hlen) (fun r2 s2 hz => ?_) fun _ _ z => z)
      obtain ⟨zv, H2, I2, rz, ez, G2, as2, c2, W2⟩ := hz
      subst ez
      obtain ⟨tk, rfl⟩ := rz
      refine ⟨⟨h5.1, by omega⟩, ?_⟩
      dsimp only
      refine wpAny_bind (wpAny_of_eq (a := some nn) (by rfl) ?_)
      dsimp only
      refine PySem.W.KFB.if_not (L2.notLongL (small5 (by omega))) (wpAny_pure ?_)
      have git : G it = none := by
        cases z : G it with
        | none => rfl
        | some o =>
          rw [W.le _ _ z] at hit
          cases hit
      have hita : it ∉ as := fun z => (W.out it z).2.ne hit
      have n1 : Hn (upd H it (TIt t it 0)) it := ⟨_, upd_same, ext_tbl⟩
      have G2it : G2 it = none := c2.nw it n1 git
      have as2it : it ∉ as2 := fun z => (c2.fs it z).elim hita fun k => k n1
      have q1 : upd H it (TIt t it 0) q = some (.lst []) := by rw [upd_ne hiq]; exact hq
      have H2q : H2 q = some (.lst []) := c2.fr q _ hqa q1 (by intro _ z; cases z)
      have H2it : H2 it = some (TIt t it 0) := c2.fr it _ hita g1 ext_tbl
      have G2t : G2 t = some (.tup xs) := (r1.up.trans c2.up) _ _ e8
      have hti : t ≠ it := fun z => by
        rw [z, git] at e8
        cases e8
      have htq : t ≠ q := fun z => by
        rw [z, hqG] at e8
        cases e8
      have hH : upd (upd H2 it (TIt t it 0)) q (.lst (xs.take 0)) = H2 := by
        funext b
        by_cases hb : b = q
        · rw [hb, upd_same, H2q] <;> rfl
        · rw [upd_ne hb]
          by_cases hb2 : b = it
          · rw [hb2, upd_same, H2it]
          · rw [upd_ne hb2]
      have I3 : Inv X pins σ H2 { s2 with toks := s2.toks + 1 } := I2.tok _
      have hd : ∀ s', Inv X pins σ (upd (upd H2 it (TAny it)) q (.lst xs)) s' → Rs (.ok (.ret res)) s' := fun s' J => done s' G2 _ as2 xs J ((r1.trans c2).side hit ext_tbl) (W2.side G2it as2it (.of H2it ext_tbl (tit_code I2 H2it)) ext_tbl) (e9.up (r1.trans c2).pre (r1.trans c2).up)
      have hloop : ∀ s', Inv X pins σ H2 s' → codeAny (model X.prog X.w) A1 (.builtin "list.extend.loop" ⟨[.ref q, .ref it, res], []⟩) Rs s' := fun s' J =>
        fill_loop (X := X) (pins := pins) (σ := σ) sb.room.hd hiq hti htq (.inl (.inl (W2.le _ _ G2t))) (small5 (by rw [← e9.len]; exact h6)) hd _ 0 s' rfl (Nat.zero_le _) (by rw [hH]; exact J)
      refine wpAny_ite_split (fun _ => ?_) (fun _ => wpAny_pure ⟨plainId_quiet PySem.F.plain_extend_loop _, hloop _ I3⟩)
      obtain ⟨z, its, kk, r3, hl3, e3'⟩ := I3.lstM H2q
      cases r3
      refine wpAny_bind (wpAny_rule (wpAny_bind ?_))
      show wpAny _ _ (updateSeq q (·.push .none) >>= fun _ => updateSeq q (·.pop)) _ _ _
      refine wpAny_bind (wpAny_updateSeq e3' rfl ?_)
      have J1' := I3.lset (f := (·.push Value.none)) (its' := [Value.none]) (ys := [.non]) (t' := s2.toks + 1) H2q e3' (by simp) (.cons rfl .nil) (by rw [List.length_singleton, sizeLine_eq]; decide)
      obtain ⟨z4, its4, k4, r4, hl4, e4'⟩ := J1'.lstM upd_same
      obtain ⟨u4, rfl, ru4⟩ := r4.one
      refine wpAny_updateSeq e4' rfl (wpAny_pure ⟨plainId_quiet PySem.F.plain_extend_loop _, hloop _ ?_⟩) (by show 1 ≤ sizeLine; rw [sizeLine_eq]; decide) (by show 0 ≤ sizeLine + 1; exact Nat.zero_le _)
      have J2' := J1'.lset (f := (·.pop)) (its := [u4]) (its' := []) (ys := []) (t' := s2.toks + 1) upd_same e4' (by rfl) .nil (Nat.zero_le _)
      rw [upd_upd] at J2'
      have hH2 : upd H2 q (.lst []) = H2 := by
        funext b
        by_cases hb : b = q
        · rw [hb, upd_same, H2q]
        · rw [upd_ne hb]
      rw [hH2] at J2'
      exact J2'
end
end RL
set_option Elab.async false
set_option linter.all false
set_option maxRecDepth 100000
/-! RL14: list(x) and *x, x iterated by its own __iter__. -/
namespace RL
open PySem PySem.Spec PyProof.Rows L2
section
variable {X : Cx} {n i : Nat} {E : XK} {c f : Str} {mLen : Mf}
def rListI (K : PySem.W.Frag) (E : XK) (c f : Str) (i : Nat) (mLen : Mf) : List V → Hp → VK → Prop := fun xs H Q => ∃ a G as ws d m, xs = [V.ref a] ∧ Wd K G H as ws ∧ Rep K as G d (.ref a) ∧ itemsO c f i mLen d ws = some m ∧ Post K E (Rep K) G H as (.ok (.cell ws.length) (ws ++ [.lst m])) Q
theorem fresh_g {K : PySem.W.Frag} {G H : Hp} {as : List Addr} {ws : List Ce} {p : Addr} (W : Wd K G H as ws) (h : H p = none) : G p = none ∧ p ∉ as := by
  refine ⟨?_, fun z => (W.out p z).2.ne h⟩
  cases z : G p with
  | none => rfl
  | some o =>
    rw [W.le _ _ z] at h
    cases h
theorem call_listI (O : Itr1 X n E c f mLen) (hr : Room (n + 1) X.A.in1.in1) : CallR X (.type "list") (rListI X.K E c f i mLen) := by
  intro pins s σ H xs us Q I rv h
  obtain ⟨a, G, as, ws, d, m, ex, W, r1, hm, P⟩ := h
  subst ex
  obtain ⟨u, rfl, ru⟩ := rv.one
  obtain rfl : u = Value.ref a := ru
  refine callType_codes (Q₁ := fun obj s₁ => obj = .ref s.heap.objs.size ∧ s₁ = { s with heap := s.heap.push { cls := .type "list", data := .seq #[] } }) PySem.F.called_list (PySem.F.typeCall_list_1 _) PySem.F.entry_list_init (code_list_new _ ⟨rfl, rfl⟩) fun obj s₁ h₁ => ?_
  obtain ⟨rfl, rfl⟩ := h₁
  have hS : (s.heap.push { cls := .type "list", data := .seq #[] }).get? s.heap.objs.size = some { cls := .type "list", data := .seq #[] } := Heap.get?_push_size _ rfl
  have fr : H s.heap.objs.size = none := I.hok.fresh (Nat.le_refl _)
  have I1 := I.lnew (its := []) (t' := s.toks) (ys := []) .nil (Nat.zero_le _)
  refine ⟨⟨_, hS, rfl⟩, PySem.F.args_list_init_2 _ _, ?_⟩
  show wpAny _ _ (do let old ← Builtin.List.listItems (.ref s.heap.objs.size); Builtin.List.listUpdate (.ref s.heap.objs.size) (fun _ => #[]); letGo old.toList.reverse; Builtin.List.listExtendWith (.ref s.heap.objs.size) (.ref a) .none) _ _ _
  refine wpAny_bind ?_
  unfold Builtin.List.listItems
  refine wpAny_bind (wpAny_seqItems hS rfl (wpAny_pure ?_))
  show wpAny _ _ (updateSeq s.heap.objs.size (fun _ => #[]) >>= fun _ => letGo (#[] : Array Value).toList.reverse >>= fun _ => Builtin.List.listExtendWith (.ref s.heap.objs.size) (.ref a) .none) _ _ _
  refine wpAny_bind (wpAny_updateSeq hS rfl ?_)
  have I2 := I1.lset (f := fun _ => #[]) (its := []) (its' := []) (ys := []) (t' := s.toks) upd_same hS rfl .nil (Nat.zero_le _)
  rw [upd_upd] at I2
  refine wpAny_bind (wpAny_letGo ?_)
  obtain ⟨g1, g2⟩ := fresh_g W fr
  exact own_ext (A1 := X.A.in1) (Rs := wants (fun r s₂ => r = .none ∧ EP X pins σ Q (.ref s.heap.objs.size) s₂) X.xe) (i := i) (n := n) ⟨hr, rfl⟩ O I2 (W.newH fr) r1 hm upd_same g2 g1
    fun s' G' H' as' ys J c' W' rm => ⟨rfl, .ref s.heap.objs.size, _, J, rfl, by
      have c0 := (Rch.newH (G := G) (as := as) (o := .lst []) fr).trans c'
      obtain ⟨z1, z2⟩ : G' s.heap.objs.size = none ∧ s.heap.objs.size ∉ as' := ⟨c'.nw _ (.of upd_same) g1, fun z => (c'.fs _ z).elim g2 fun k => k (.of upd_same)⟩
      refine P _ G' _ _ (c0.adopt fr) (W'.adopt (c := .lst m) z1 z2 (.of (c'.fr _ _ g2 upd_same (by intro _ z; cases z))) ⟨ys, rfl, rm.up (prefix_snoc _ _) (Same.refl _)⟩) ?_
      simp only [Rep]
      exact ⟨_, by rw [← W'.len]; simp, rfl⟩⟩
/-- *x -/
theorem star_own {E' : Value → Shared → Prop} {pins : List (Addr × Obj)} {σ : L2.St} {H G : Hp} {as : List Addr} {ws : List Ce} {d : D} {m : List D} {a : Addr} {s : Shared} {Q : List Value → Shared → Prop} (O : Itr1 X n E c f mLen) (hr : Room (n + 1) X.A.in1) (I : Inv X pins σ H s) (W : Wd X.K G H as ws)
    (r : Rep X.K as G d (.ref a)) (hm : itemsO c f i mLen d ws = some m)
    (k : ∀ us xs s' G' H' as', Inv X pins σ H' s' → Rch G H as G' H' as' → Wd X.K G' H' as' ws → Reps X.K as' G' m xs → Vals xs us → Q us s') : PySem.W.StarOf (model X.prog X.w) X.A E' (.ref a) Q s := by
  obtain ⟨ks, l, nn, h1, h2, h3, h4, h5, h6⟩ := itemsO_some hm
  obtain ⟨a', dx, vs, e1, e2, e3, e4⟩ := ins_rep W h1 r
  cases e1
  obtain ⟨mA, J, _⟩ := ins_get I.hok e2
  obtain ⟨od, J, _⟩ := J.look
  obtain ⟨fi, fd, ps, FI, hs, hf, hb⟩ := O.it
  have fr : H s.heap.objs.size = none := I.hok.fresh (Nat.le_refl _)
  obtain ⟨g1, g2⟩ := fresh_g W fr
  unfold PySem.W.StarOf notIterableAtAll
  refine wpAny_bind (wpAny_bind (J.type.here ((PySem.W.looks_findIn I.kIn hs).here (wpAny_pure ⟨rfl, ?_⟩))))
  unfold collect
  refine wpAny_bind (wpAny_runValue (codeAny_builtin PySem.F.entry_proto_collect ?_))
  rw [Around.under_plainId PySem.F.plain_proto_collect _]
  show wpAny _ X.A.in1 (newList [] >>= fun l => again (.builtin "list.__iadd__" ⟨[l, .ref a], []⟩)) _ _ s
  refine wpAny_bind (wpAny_newObj_type (wpAny_pure ⟨plainId_quiet PySem.F.plain_list_iadd _, codeAny_builtin PySem.F.entry_list_iadd ?_⟩))
  rw [Around.under_plainId PySem.F.plain_list_iadd _]
  have I1 := I.lnew (its := []) (t' := s.toks) (ys := []) .nil (Nat.zero_le _)
  show wpAny _ X.A.in1 (Builtin.List.listExtendWith (.ref s.heap.objs.size) (.ref a) (.ref s.heap.objs.size)) _ _ _
  refine own_ext (A1 := X.A) (i := i) (n := n) (Rs := wants (fun v s' => wpAny (model X.prog X.w) X.A (match v with
    | .ref b => do match (← load b).data with
      | .seq zs _ => pure zs.toList
      | _ => unsupported "internal:collect"
    | _ => unsupported "internal:collect") Q E' s') E') ⟨hr, rfl⟩ O I1 (W.newH fr) r hm upd_same g2 g1 fun s' G' H' as' ys J' c' W' rm => ?_
  have c0 := (Rch.newH (G := G) (as := as) (o := .lst []) fr).trans c'
  obtain ⟨z1, z2⟩ : G' s.heap.objs.size = none ∧ s.heap.objs.size ∉ as' := ⟨c'.nw _ (.of upd_same) g1, fun z => (c'.fs _ z).elim g2 fun k => k (.of upd_same)⟩
  obtain ⟨z, its, kk, rr, hl, e⟩ := J'.lstM upd_same
  show wpAny _ X.A (load s.heap.objs.size >>= _) _ _ s'
  exact wpAny_bind (wpAny_load e (wpAny_pure (k its ys s' G' _ as' J' (c0.side fr) (W'.side z1 z2 (.of (c'.fr _ _ g2 upd_same (by intro _ z; cases z)))) rm rr)))
end
def sListI (c f : Str) (i : Nat) (mLen : Mf) (a : Sa) : Se := fun ρ ws => (a ρ ws).bind fun ds ws1 => match ds with
  | [d] => (match itemsO c f i mLen d ws1 with
    | some m => .ok (.cell ws1.length) (ws1 ++ [.lst m])
    | none => .bad)
  | _ => .bad
def sStarI (c f : Str) (i : Nat) (mLen : Mf) (a : Se) (r : Sa) : Sa := fun ρ ws => (a ρ ws).bind fun x ws1 => match itemsO c f i mLen x ws1 with
  | some l => (r ρ ws1).bind fun xs ws2 => .ok (l ++ xs) ws2
  | none => .bad
def tStarI (K : PySem.W.Frag) (c f : Str) (i : Nat) (mLen : Mf) (te : TE) (t : TA) : TA := fun σ H Q => te σ H fun x H1 => ∃ a G as ws d m, x = V.ref a ∧ Wd K G H1 as ws ∧ Rep K as G d (.ref a) ∧ itemsO c f i mLen d ws = some m ∧
  ∀ xs G' H' as', Rch G H1 as G' H' as' → Wd K G' H' as' ws → Reps K as' G' m xs → t σ H' fun ys H2 => Q (xs ++ ys) H2
section
variable {K : PySem.W.Frag} {X : Cx} {E : XK} {e : Expr} {es : List Expr} {te : TE} {ta : TA} {se : Se} {sa : Sa} {p pos : Pos} {n : Nat} {c f : Str} {mLen : Mf}
theorem items_rep {G H : Hp} {as : List Addr} {ws : List Ce} {d : D} {v : V} {m : List D} {i : Nat} (W : Wd K G H as ws) (r : Rep K as G d v) (h : itemsO c f i mLen d ws = some m) : ∃ a, v = .ref a := by
  obtain ⟨ks, l, nn, h1, _⟩ := itemsO_some h
  obtain ⟨a, dx, vs, e1, _⟩ := ins_rep W h1 r
  exact ⟨a, e1⟩
theorem ae_listI (i : Nat) (O : Itr1 X n E c f mLen) (hr : Room (n + 1) X.A.in1.in1) (hm : X.mg "list" = none) (ha : AA K X E (e :: es) ta sa) (hg : Gl X "list" := by rfl)
    (he : starEach (e :: es) X.env = (false, eval e X.env) :: starEach es X.env := by rfl) (hpl : (backTo pos (starEach es X.env)).any (·.1) = false := by rfl) : AE K X E (.Call (.Name "list" p) (e :: es) [] pos) (tCB (rListI K E c f i mLen) ta) (sListI c f i mLen sa) := by
  have e0 := ha.hK
  subst e0
  refine ⟨rfl, pe_callTy (call_listI O hr) hg hm rfl ha.pe (by decide) (by decide) he hpl, fun ρ ws G H as σ Q W S P => ha.ev ρ ws G H as σ _ W S (Post.bind P fun ds ws1 vs G1 H1 as1 r1 W1 rs P1 => ?_)⟩
  split at P1
  · rename_i d
    split at P1
    · rename_i m hm'
      obtain ⟨v, us, e1, e2, e3⟩ := rs.uncons
      rw [e3.unnil] at e1
      subst e1
      obtain ⟨a, ea⟩ := items_rep W1 e2 hm'
      subst ea
      exact ⟨a, G1, as1, ws1, d, m, rfl, W1, e2, hm', P1⟩
    · exact False.elim P1
  · exact False.elim P1
theorem aa_starI (i : Nat) (O : Itr1 X n E c f mLen) (hrm : Room (n + 1) X.A.in1) (he : AE K X E e te se) (hr : AA K X E es ta sa) (hs : starEach (.Starred e p :: es) X.env = (true, eval e X.env) :: starEach es X.env := by rfl) : AA K X E (.Starred e p :: es) (tStarI K c f i mLen te ta) (sStarI c f i mLen se sa) := by
  have e0 := he.hK
  subst e0
  refine ⟨rfl, ⟨fun pos pins s σ H Q I h => PySem.W.items_star (thn (he.pe.run pins s σ H _ I h) fun v s1 ⟨y, H1, I1, ry, a, G, as, ws, d, m, ey, W, rd, hm, q⟩ => ?_) hs⟩, fun ρ ws G H as σ Q W S P => he.ev ρ ws G H as σ _ W S (Post.bind P fun d ws1 v G1 H1 as1 r1 W1 rx P1 => ?_)⟩
  · subst ey
    obtain rfl : v = Value.ref a := ry
    refine star_own O hrm I1 W rd hm fun us xs s2 G' H' as' I2 c' W' rm rv => ?_
    exact thn (hr.pe.run pos pins s2 σ H' _ I2 (q xs G' H' as' c' W' rm)) fun ws' s3 ⟨vs, H3, I3, r3, q3⟩ => ⟨xs ++ vs, H3, I3, rv.append r3, q3⟩
  · split at P1
    · rename_i l hl
      obtain ⟨a, ea⟩ := items_rep W1 rx hl
      subst ea
      refine ⟨a, G1, as1, ws1, d, l, rfl, W1, rx, hl, fun xs G' H' as' c' W' rm => ?_⟩
      refine hr.ev ρ ws1 G' H' as' σ _ W' ((S.up r1.pre r1.up).up c'.pre c'.up) (Post.bind (Post.from P1 c') fun ys ws2 us G2 H2 as2 r2 W2 rs P2 => ?_)
      exact Post.done P2 W2 ((rm.up r2.pre r2.up).app rs)
    · exact False.elim P1
end
end RL
set_option Elab.async false
set_option linter.all false
set_option maxRecDepth 100000
/-! RL15: is None, in a tuple of data, fixed lists, comprehensions that make a list to be written, xs[:] = ys, bool(x) by an own __len__. -/
namespace RL
open PySem PySem.Spec PyProof.Rows L2
section
variable {K : PySem.W.Frag}
def isNonD : D → Bool
  | .non => true
  | _ => false
/-- x is None, x told by its form -/
def fIsN (neg : Bool) : List Ce → D → D → Option D := fun ws x y => match y with
  | .non => some (.bl (if neg then !isNonD x else isNonD x))
  | _ => none
theorem isNonD_ok {as : List Addr} {G : Hp} {d : D} {v : V} (r : Rep K as G d v) : decide (v = .non) = isNonD d := by
  cases d with
  | non =>
    simp only [Rep] at r
    subst r
    rfl
  | bl b =>
    simp only [Rep] at r
    subst r
    rfl
  | int b =>
    simp only [Rep] at r
    subst r
    rfl
  | str b =>
    simp only [Rep] at r
    subst r
    rfl
  | tup l =>
    simp only [Rep] at r
    obtain ⟨a, _, e, _⟩ := r
    subst e
    rfl
  | lst l =>
    simp only [Rep] at r
    obtain ⟨a, _, e, _⟩ := r
    subst e
    rfl
  | ins _ _ l =>
    simp only [Rep] at r
    obtain ⟨a, _, _, e, _⟩ := r
    subst e
    rfl
  | cell n =>
    simp only [Rep] at r
    obtain ⟨a, _, e⟩ := r
    subst e
    rfl
  | cls c =>
    simp only [Rep] at r
    subst r
    rfl
  | fz l =>
    simp only [Rep] at r
    obtain ⟨a, _, e, _⟩ := r
    subst e
    rfl
  | exc _ _ l =>
    simp only [Rep] at r
    obtain ⟨a, _, _, e, _⟩ := r
    subst e
    rfl
  | dct _ l =>
    simp only [Rep] at r
    obtain ⟨a, _, e, _⟩ := r
    subst e
    rfl
  | dcT _ l =>
    simp only [Rep] at r
    obtain ⟨a, _, e, _⟩ := r
    subst e
    rfl
theorem od_isN : OpD K (fun x y H Q => y = .non ∧ Q (.bl (decide (x = .non))) H) (fIsN false) := OpD.pure fun ws G H as x y d e z Q W rx ry ef k => by
  unfold fIsN at ef
  split at ef
  · cases ef
    simp only [Rep] at ry
    exact ⟨ry, by rw [isNonD_ok rx]; exact k _ (by simp [Rep])⟩
  · cases ef
theorem od_notN : OpD K (fun x y H Q => y = .non ∧ Q (.bl (!decide (x = .non))) H) (fIsN true) := OpD.pure fun ws G H as x y d e z Q W rx ry ef k => by
  unfold fIsN at ef
  split at ef
  · cases ef
    simp only [Rep] at ry
    exact ⟨ry, by rw [isNonD_ok rx]; exact k _ (by simp [Rep])⟩
  · cases ef
/-! x in a tuple (data) -/
def rInT (K : PySem.W.Frag) (neg : Bool) : R2 := fun x y H Q => ∃ d ds, Dp K H x d ∧ Dp K H y (.tuple ds) ∧ SeqAt.shaped d = true ∧ SeqAt.shaped (.tuple ds) = true ∧ Q (.bl (if neg then !(ds.any fun z => PyData.eqv z d) else ds.any fun z => PyData.eqv z d)) H
theorem op_inT {X : Cx} {neg : Bool} (hu : X.A.units + 65 < cLine) : OpR X (compareOp (if neg then .NotIn else .In)) (rInT X.K neg) := by
  intro pins s σ H x y v u Q I rx ry h
  obtain ⟨d, ds, hd, he, sd, se, q⟩ := h
  obtain ⟨as, t1⟩ := Dp.reads I d x v hd rx
  obtain ⟨bs, t2⟩ := Dp.reads I (.tuple ds) y u he ry
  have se' : PyData.canLayAll0 ds = true := by simpa [PyData.canLay0] using SeqAt.canLay_of_shaped se
  cases neg with
  | false => exact SeqAt.in_tuple_reads t2 t1 se' (SeqAt.canLay_of_shaped sd) (room_in_shaped sd hu) ⟨.bl _, H, I, rfl, q⟩
  | true => exact SeqAt.notIn_tuple_reads t2 t1 se' (SeqAt.canLay_of_shaped sd) (room_in_shaped sd hu) ⟨.bl _, H, I, rfl, q⟩
def fInT (neg : Bool) : List Ce → D → D → Option D := fun ws x y => (toPy ws x).bind fun p => (toPy ws y).bind fun q => match q with
  | .tuple ds => if (SeqAt.shaped p && SeqAt.shaped (.tuple ds)) = true then some (.bl (if neg then !(ds.any fun z => PyData.eqv z p) else ds.any fun z => PyData.eqv z p)) else none
  | _ => none
theorem od_inT {neg : Bool} : OpD K (rInT K neg) (fInT neg) := OpD.pure fun ws G H as x y d e z Q W rx ry ef k => by
  simp only [fInT, Option.bind_eq_some_iff] at ef
  obtain ⟨p, h1, q, h2, h3⟩ := ef
  split at h3
  · split at h3
    · rename_i h4
      cases h3
      obtain ⟨h5, h6⟩ := Bool.and_eq_true_iff.mp h4
      exact ⟨p, _, toPy_ok W h1 rx, toPy_ok W h2 ry, h5, h6, k _ (by simp [Rep])⟩
    · cases h3
  · cases h3
/-- list(x): a list that is never written -/
def gList : List Ce → D → Option D := fun ws x => (seqOf ws x).map .lst
theorem cd_listF : CaD K (fun xs H Q => ∃ p ys, xs = [.ref p] ∧ (SqL K H p ys ∨ SqT K H p ys) ∧ ∀ l, H l = none → Q (.ref l) (upd H l (.lst ys))) (fb1 gList) := fun ws G H as xs ds y ws' Q W rs e k => by
  unfold fb1 at e
  split at e
  · rename_i d
    obtain ⟨z, h1, h2⟩ := Option.map_eq_some_iff.mp e
    cases h2
    obtain ⟨l, h3, h4⟩ := Option.map_eq_some_iff.mp h1
    subst h4
    obtain ⟨v, vs, e1, e2, e3⟩ := rs.uncons
    rw [e3.unnil] at e1
    subst e1
    obtain ⟨a, us, f1, f2, f3⟩ := seq_rep W h3 e2
    subst f1
    refine ⟨a, us, rfl, f2, fun p hp => k _ _ _ as (Rch.new W.le hp) (W.new hp) ?_⟩
    simp only [Rep]
    exact ⟨p, us, rfl, upd_same, f3.up (List.prefix_refl _) (Rch.new (as := as) W.le hp).up⟩
  · cases e
end
/-! ### xs[:] = ys -/
section
variable {prog : Program} {w : World} {A : Around} {E : Value → Shared → Prop} {s : Shared}
theorem setItem_all {l b sl : Addr} {old new : Array Value} {n n2 : Nat} {Q : Unit → Shared → Prop} (e : s.heap.get? l = some { cls := .type "list", data := .seq old n }) (e2 : s.heap.get? b = some { cls := .type "list", data := .seq new n2 }) (hne : l ≠ b)
    (hs : s.heap.IsSliceOf sl .none .none .none) (hsz : old.size + new.size ≤ sizeLine) (h : Q () { s with heap := s.heap.update l (Obj.mapSeq fun xs => xs.extract 0 0 ++ new ++ xs.extract old.size xs.size) }) : wpAny (model prog w) A (setItem (.ref l) (.ref sl) (.ref b)) Q E s := by
  have hl : s.heap.IsList l old := PySem.IsL.isList e
  have hb : s.heap.IsList b new := PySem.IsL.isList e2
  obtain ⟨os, hos, hcs, hds⟩ := id hs
  have hTs : s.TypeIs (.ref sl) "slice" := ⟨os, hos, hcs⟩
  have same : Builtin.List.listSameRef (.ref l) (.ref b) = false := by
    unfold Builtin.List.listSameRef
    exact beq_eq_false_iff_ne.mpr hne
  have hz' : ((fun xs : Array Value => xs.extract 0 0 ++ new ++ xs.extract old.size xs.size) old).size ≤ sizeLine + 1 := by
    simp only [Array.size_append, Array.size_extract]
    omega
  have hb2 : sliceBounds none none none old.size = (0, (old.size : Int), 1) := rfl
  unfold setItem
  try with_reducible refine wpAny_holding ?_
  first | refine wpAny_bind (wpAny_pure ?_) | skip
  refine wpAny_bind (wpAny_sequenceKey hl.typeIs (by decide) (wpAny_bind (wpAny_callSpecial?_slot (name := Str.ofString "__setitem__") hl.typeIs slot_list_setitem (wpAny_call_entry slot_list_setitem hl.typeIs entry_list_setitem ?_ (args_list_setitem _ _ _)))))
  show wpAny _ _ (Builtin.List.listSubscript? (.ref sl) >>= _) _ _ s
  refine wpAny_bind ?_
  unfold Builtin.List.listSubscript?
  refine wpAny_bind (wpAny_specialOf hTs slice_no_index ?_)
  simp only [Option.isNone_none, if_true]
  refine wpAny_pure ?_
  show wpAny _ _ (typeOf (.ref sl) >>= _) _ _ s
  refine wpAny_bind (wpAny_typeOf hTs (PySem.W.KFB.if_not (by decide) ?_))
  rw [listSliceParts_eq]
  refine wpAny_bind (wpAny_bind (wpAny_field hos hds (x := .none) rfl (wpAny_bind (wpAny_listPart .none (PySem.W.KFB.if_not rfl ?_)))))
  refine wpAny_bind (wpAny_field hos hds (x := .none) rfl (wpAny_bind (wpAny_listPart .none (wpAny_bind (wpAny_field hos hds (x := .none) rfl (wpAny_bind (wpAny_listPart .none (wpAny_pure ?_))))))))
  first
    | simp only [same, Bool.false_eq_true, if_false]
    | refine PySem.W.KFB.if_not same ?_
  refine wpAny_bind (m := Builtin.List.listAllItems (.ref b) "must assign iterable to extended slice") ?_
  unfold Builtin.List.listAllItems
  refine wpAny_bind (wpAny_typeOf hb.typeIs (PySem.W.KFB.if_so (by decide) ?_))
  unfold Builtin.List.listItems
  refine wpAny_bind (wpAny_seqItems e2 rfl (wpAny_pure (wpAny_bind (wpAny_bind (wpAny_seqItems e rfl (wpAny_pure ?_))))))
  refine wpAny_bind (wpAny_of_eq ((sliceIndices_raw none none none old.size (by simp)).trans (congrArg (pure : Int × Int × Int → Sem (Int × Int × Int)) hb2)) ?_)
  show wpAny _ _ (if ((1 : Int) == 1) = true then _ else _) _ _ s
  rw [if_pos (by decide)]
  refine wpAny_bind (wpAny_rule ?_)
  first
    | simp only [L2.notLongL hsz, Bool.false_eq_true, if_false]
    | refine PySem.W.KFB.if_not (L2.notLongL hsz) ?_
  first | refine wpAny_bind (wpAny_pure ?_) | skip
  show wpAny _ _ (updateSeq l (fun xs => xs.extract 0 ((0 : Int)).toNat ++ new ++ xs.extract (max (0 : Int) (old.size : Int)).toNat xs.size) >>= _) _ _ s
  have hmax : (max (0 : Int) (old.size : Int)).toNat = old.size := by omega
  rw [hmax]
  refine wpAny_bind (wpAny_updateSeq (hz := Nat.le_trans (Nat.le_add_right _ _) hsz) (_hz' := hz') e rfl (wpAny_bind (wpAny_letGo ?_)))
  first
    | exact wpAny_bind (wpAny_pure (wpAny_pure ⟨.none, rfl, wpAny_pure h⟩))
    | exact wpAny_pure ⟨.none, rfl, wpAny_pure h⟩
end
end RL
set_option Elab.async false
set_option linter.all false
set_option maxRecDepth 100000
/-! RL16: xs[:] = ys, bool(x) by an own __len__. -/
namespace RL
open PySem PySem.Spec PyProof.Rows L2
/-! ### xs[:] = ys -/
theorem splice_all (its its2 : List Value) : its.toArray.extract 0 0 ++ its2.toArray ++ its.toArray.extract its.toArray.size its.toArray.size = its2.toArray := by
  apply Array.toList_inj.mp
  simp
def gAll1 (to : TE) : TG := fun v σ H Q => to σ H fun o H1 => ∃ l b xs ys, o = .ref l ∧ v = .ref b ∧ l ≠ b ∧ H1 l = some (.lst xs) ∧ H1 b = some (.lst ys) ∧ xs.length + ys.length ≤ sizeLine ∧ Q σ (upd H1 l (.lst ys))
theorem pg_all1 {X : Cx} {o : Expr} {to : TE} {pos p2 : Pos} (ho : PE X o to) (ha : ∀ v, assign (.Subscript o (.Slice none none none p2) pos) X.env v = (do
      let ov ← holding [v] (eval o X.env)
      let iv ← holding [v, ov] (eval (.Slice none none none p2) X.env)
      standAt pos
      holding [v, ov, iv] (setItem ov iv v)
      release [iv, v, ov] []) := by intro _; rfl) : PG X (.Subscript o (.Slice none none none p2) pos) (gAll1 to) := by
  refine ⟨fun pins s σ H v u Q I r h => ?_⟩
  rw [ha]
  refine wpAny_bind (wpAny_holding (thn (ho.run pins s σ H _ I h) fun ov s1 ⟨x, H1, I1, r1, l, b, xs, ys, ex, ev, hne, hl, hb, hz, q⟩ => ?_))
  subst ex ev
  obtain rfl : ov = Value.ref l := r1
  obtain rfl : u = Value.ref b := r
  refine wpAny_bind (wpAny_holding (wpAny_Slice (evalPart_none_step (evalPart_none_step (evalPart_none_step ?_)))))
  have I2 := I1.kept (t' := s1.toks) (h' := s1.heap.push { cls := .type "slice", data := .fields #[.none, .none, .none] }) fun b ob q => Heap.get?_push_of_some _ q
  obtain ⟨_, its, k1, t1, _, e1⟩ := I2.lstM hl
  obtain ⟨_, its2, k2, t2, _, e2⟩ := I2.lstM hb
  refine wpAny_bind (wpAny_standAt (wpAny_bind (wpAny_holding (setItem_all e1 e2 hne (Heap.IsSliceOf.new ..) (by rw [List.size_toArray, List.size_toArray, ← t1.length, ← t2.length]; exact hz) (wpAny_release ?_)))))
  have J := I2.lset (f := fun zs => zs.extract 0 0 ++ its2.toArray ++ zs.extract its.toArray.size zs.size) (its' := its2) (ys := ys) (t' := s1.toks) hl e1 (splice_all its its2) t2 (by omega)
  exact ⟨σ, _, J, q⟩
def tgAll (o : Se) : Tg := fun d ρ ws => (o ρ ws).bind fun x ws1 => match x, d with
  | .cell n, .lst m => (match ws1[n]? with
    | some (.lst l) => if l.length + m.length ≤ 100000 then .ok ρ (ws1.set n (.lst m)) else .bad
    | _ => .bad)
  | _, _ => .bad
theorem ag_all1 {K : PySem.W.Frag} {X : Cx} {E : XK} {o : Expr} {to : TE} {so : Se} {pos p2 : Pos} (ho : AE K X E o to so) (ha : ∀ v, assign (.Subscript o (.Slice none none none p2) pos) X.env v = (do
      let ov ← holding [v] (eval o X.env)
      let iv ← holding [v, ov] (eval (.Slice none none none p2) X.env)
      standAt pos
      holding [v, ov, iv] (setItem ov iv v)
      release [iv, v, ov] []) := by intro _; rfl) : AG K X E (.Subscript o (.Slice none none none p2) pos) (gAll1 to) [] (tgAll so) := by
  refine ⟨ho.hK, pg_all1 ho.pe ha, fun d v ρ ws G H as σ Q W S r P => ho.ev ρ ws G H as σ _ W S (Post.bind P fun x ws1 u G1 H1 as1 r1 W1 rx P1 => ?_)⟩
  split at P1
  · rename_i n m
    split at P1
    · rename_i l q
      split at P1
      · rename_i hl
        obtain ⟨a, vs, e1, e2, e3, e4⟩ := cell_lst W1 q rx
        have rd := r.up r1.pre r1.up
        simp only [Rep] at rd
        obtain ⟨b, us, f1, f2, f3⟩ := rd
        have ne : a ≠ b := fun z => by
          rw [← z, (W1.out a (List.mem_of_getElem? e2)).1] at f2
          cases f2
        refine ⟨a, b, vs, us, e1, f1, ne, e3, W1.le _ _ f2, small5 (by rw [← e4.len, ← f3.len]; exact hl), ?_⟩
        exact P1 σ G1 _ as1 (Rch.put (List.mem_of_getElem? e2)) (W1.put e2 q (fun z => by cases z) ⟨us, rfl, f3⟩) ⟨S.up r1.pre r1.up, Chg.refl⟩
      · exact False.elim P1
    · exact False.elim P1
  · exact False.elim P1
/-! ### bool(x) -/
section
variable {X : Cx} {E : XK} {c : Str} {m : Mf} {k : Nat}
def rOwnBool (K : PySem.W.Frag) (E : XK) (c : Str) (m : Mf) : List V → Hp → VK → Prop := fun xs H Q => ∃ x G as ws d, xs = [x] ∧ Wd K G H as ws ∧ Rep K as G d x ∧ isIns c ws d = true ∧ Post K E (Rep K) G H as ((m [d] ws).bind fun z ws1 => match z with
  | .int i => if 0 ≤ i ∧ i < 1000000 then .ok (.bl (i != 0)) ws1 else .bad
  | _ => .bad) Q
theorem call_ownBool (dn : Dun X k E c "__len__" m) (hb0 : PySem.W.findIn X.K (.ref (He.ga X.K c)) "__bool__" = some none) (hr : Room k X.A.in1.in1.in1) : CallR X (.type "bool") (rOwnBool X.K E c m) := by
  intro pins s σ H xs us Q I rv h
  obtain ⟨x, G, as, ws, d, ex, W, r1, hi, P⟩ := h
  subst ex
  obtain ⟨u, rfl, rx⟩ := rv.one
  obtain ⟨f, fd, ps, F, hs, hf, _, hb⟩ := dn.ok
  obtain ⟨a, e1, e2, ox, od, J⟩ := isIns_two I rx W r1 hi
  subst e1 e2
  have h : spM X.K m [.ref a] H (fun z H' => ∃ i : Int, z = .int i ∧ (0 ≤ i ∧ i < 1000000) ∧ Q (.bl (i != 0)) H') E := by
    refine ⟨G, as, ws, [d], W, Reps.one r1, Post.bind P fun z ws1 vz G1 H1 as1 q1 W1 rz P1 => ?_⟩
    cases z with
    | int i =>
      simp only at P1
      split at P1
      · rename_i hi
        simp only [Rep] at rz
        exact ⟨i, rz, hi, Post.done P1 W1 (by simp [Rep])⟩
      · exact False.elim P1
    | _ => exact False.elim P1
  have z := own_run F hb dn.px (A := X.A.in1.in1.in1) (us := [.ref a]) ⟨hr, rfl⟩ I (.cons (show RelV (V.ref a) (Value.ref a) from rfl) .nil) h
  have key : wpAny (model X.prog X.w) X.A.in1.in1 (runValue (.builtin "len" ⟨[.ref a], []⟩)) (fun r s' => ∃ (i : Int) (t : Tok) (H' : Hp), r = .int i t ∧ Inv X pins σ H' s' ∧ Q (.bl (i != 0)) H') X.xe s := by
    refine wpAny_runValue (codeAny_builtin entry_len ?_)
    rw [Around.under_plainId plain_len _]
    unfold Builtin.«len»
    refine wpAny_bind (m := oneArg "len" _) (wpAny_pure (wpAny_bind (m := callSpecial? (.ref a) (Str.ofString "__len__")) (PySem.W.special_fn I.kIn J hs (beq_iff_eq.mp hf) (wpAny_mono z (fun r s' hr => ?_) fun _ _ y => y))))
    obtain ⟨zv, H', I', rz, i, ez, hi, q⟩ := hr
    subst ez
    obtain ⟨t, rfl⟩ := rz
    refine wpAny_bind (wpAny_holding (wpAny_pure (wpAny_bind (wpAny_letGo ?_))))
    have q1 : ¬ i < 0 := by omega
    have q2 : ¬ i ≥ 2 ^ 63 := by omega
    simp only [q1, q2, if_false]
    exact wpAny_bind (wpAny_mkInt (wpAny_pure ⟨i, _, H', rfl, I'.tok _, q⟩))
  have tru : wpAny (model X.prog X.w) X.A.in1.in1 (truthy (.ref a)) (fun b s' => ∃ H', Inv X pins σ H' s' ∧ Q (.bl b) H') X.xe s := by
    unfold truthy
    refine wpAny_bind (m := callSpecial? (.ref a) (Str.ofString "__bool__")) (wpAny_bind (wpAny_bind (J.type.here ((PySem.W.looks_findIn I.kIn hb0).here (wpAny_pure ?_)))))
    refine wpAny_bind (wpAny_bind (J.type.here ((PySem.W.looks_findIn I.kIn hs).here (PySem.W.KFB.if_not rfl (wpAny_bind (wpAny_mono key (fun r s' hr => ?_) fun _ _ y => y))))))
    obtain ⟨i, t, H', er, I', q⟩ := hr
    subst er
    exact wpAny_pure ⟨H', I', q⟩
  refine callType_codes (T := "bool") (Bi := Builtin.«object.__init__») (Q₁ := fun r s₁ => ∃ b H', r = .bool b ∧ Inv X pins σ H' s₁ ∧ Q (.bl b) H') PySem.F.called_bool (PySem.F.typeCall_bool_1 _) PySem.F.entry_object_init ?_ ?_
  · refine codeAny_of_tree ?_
    show wpAny _ X.A.in1.in1 (do checkBuiltinCall "bool.__new__" ⟨[.type "bool", .ref a], []⟩; again (.builtin "bool.__new__" ⟨[.type "bool", .ref a], []⟩)) _ _ s
    refine wpAny_bind (wpAny_of_eq (PySem.F.newCall_bool_1 _) (wpAny_pure ⟨plainId_quiet (by decide +kernel) _, codeAny_builtin PySem.F.entry_bool_new ?_⟩))
    rw [Around.under_plainId (by decide +kernel) _]
    unfold Builtin.«bool.__new__»
    have f1 := PySem.F.conv_sub_bool
    repeat (first | with_reducible refine wpAny_bind (wpAny_mono tru (fun b s' hq => ?_) fun _ _ y => y) | wp_step)
    obtain ⟨H', I', q⟩ := hq
    exact ⟨b, H', rfl, I', q⟩
  · rintro obj s₁ ⟨b, H', rfl, I', q⟩
    exact ⟨rfl, PySem.F.args_object_init_2 _ _, object_init_meets PySem.F.called_bool.init.lookup PySem.F.called_bool.made (by decide) _ _ X.A.in1 _ s₁ ⟨rfl, rfl, .bl b, H', I', rfl, q⟩⟩
def sBoolO (c : Str) (m : Mf) (a : Sa) : Se := fun ρ ws => (a ρ ws).bind fun ds ws1 => match ds with
  | [d] => if isIns c ws1 d = true then (m [d] ws1).bind fun z ws2 => (match z with
      | .int i => if 0 ≤ i ∧ i < 1000000 then .ok (.bl (i != 0)) ws2 else .bad
      | _ => .bad)
    else .bad
  | _ => .bad
theorem ae_boolO {K : PySem.W.Frag} {e : Expr} {es : List Expr} {ta : TA} {sa : Sa} {p pos : Pos} (dn : Dun X k E c "__len__" m) (hb0 : PySem.W.findIn X.K (.ref (He.ga X.K c)) "__bool__" = some none) (hr : Room k X.A.in1.in1.in1) (hm : X.mg "bool" = none) (ha : AA K X E (e :: es) ta sa) (hg : Gl X "bool" := by rfl)
    (he : starEach (e :: es) X.env = (false, eval e X.env) :: starEach es X.env := by rfl) (hpl : (backTo pos (starEach es X.env)).any (·.1) = false := by rfl) : AE K X E (.Call (.Name "bool" p) (e :: es) [] pos) (tCB (rOwnBool K E c m) ta) (sBoolO c m sa) := by
  have e0 := ha.hK
  subst e0
  refine ⟨rfl, pe_callTy (call_ownBool dn hb0 hr) hg hm rfl ha.pe (by decide) (by decide) he hpl, fun ρ ws G H as σ Q W S P => ha.ev ρ ws G H as σ _ W S (Post.bind P fun ds ws1 vs G1 H1 as1 r1 W1 rs P1 => ?_)⟩
  split at P1
  · split at P1
    · rename_i d hi
      obtain ⟨v, us, e1, e2, e3⟩ := rs.uncons
      rw [e3.unnil] at e1
      subst e1
      exact ⟨v, G1, as1, ws1, d, rfl, W1, e2, hi, P1⟩
    · exact False.elim P1
  · exact False.elim P1
end
/-! ### repr of data, no other repr under way -/
def gRepr : List Ce → D → Option D := fun ws x => match x with
  | .lst _ => (toPy ws x).bind fun p => if p.showable = true ∧ p.hasDict = false ∧ p.depth ≤ 60 ∧ p.shown.length ≤ 100000 then some (.str p.shown) else none
  | _ => none
def rReprL (K : PySem.W.Frag) : List V → Hp → VK → Prop := fun xs H Q => ∃ a p, xs = [V.ref a] ∧ Dp K H (V.ref a) p ∧ p.showable = true ∧ p.hasDict = false ∧ p.depth ≤ 60 ∧ p.shown.length ≤ 100000 ∧ Q (.str p.shown) H
theorem call_reprL {X : Cx} (hg : X.A.guards = some []) (hu : X.A.units + 65 < cLine) : CallR X (.builtin "repr") (rReprL X.K) := by
  intro pins s σ H xs us Q I rv h
  obtain ⟨a, p, ex, hd, h1, h2, h3, h4, q⟩ := h
  subst ex
  obtain ⟨u, rfl, ru⟩ := rv.one
  obtain rfl : u = Value.ref a := ru
  obtain ⟨as, t1⟩ := Dp.reads I p (V.ref a) (Value.ref a) hd rfl
  exact repr_of_reads' t1 h1 (PyData.noDict_hsm h2) hg (by omega) (fun _ _ e => e) (fun h' u tk hk => ⟨.str p.shown, H, I.kept hk, ⟨_, rfl⟩, q⟩) (small5 h4)
theorem cd_repr {K : PySem.W.Frag} : CaD K (rReprL K) (fb1 gRepr) := .one fun ws G H as x d z Q W r e k => by
  unfold gRepr at e
  split at e
  · rename_i l
    obtain ⟨p, h1, h2⟩ := Option.bind_eq_some_iff.mp e
    split at h2
    · rename_i hh
      cases h2
      have r' := r
      simp only [Rep] at r'
      obtain ⟨a, vs, e1, _⟩ := r'
      subst e1
      exact ⟨a, p, rfl, toPy_ok W h1 r, hh.1, hh.2.1, hh.2.2.1, hh.2.2.2, k _ (by simp [Rep])⟩
    · cases h2
  · cases e
/-! ### a def that is run while no repr is under way -/
def FnG (P : Program) (w : World) (K : PySem.W.Frag) (mg : Str → Option Value) (base : Heap) (k : Nat) (f : Addr) (m : Mf) : Prop := ∀ (A : Around) (outer : List Env) (s : Shared) (H : Hp) (us : List Value) (vs : List V) (Q : VK) (E : XK),
  Room k A → A.guards = some [] → Env0 P w K mg base A outer s H → Vals vs us → spM K m vs H Q E → codeAny (model P w) A (.call (.ref f) ⟨us, []⟩) (CR (L2.CX P w) outer P w H s Q E) s
theorem fng_of {P : Program} {w : World} {K : PySem.W.Frag} {mg : Str → Option Value} {base : Heap} {x qual : Str} {params : Arguments} {body : List Stmt} {scope : Scope} {dvs : List V} {kws : List (Str × V)} {f : Addr} {fd : FuncData} {N ps : List Str} {k : Nat} {g : Ss} {kp : Bool}
    (F : FunD K x qual params body scope dvs kws f fd) (S : FnScope N ps scope) (hbi : Binds K fd ps [])
    (hb : ∀ (cdv : Value) (A : Around) (outer : List Env) (s : Shared) (H : Hp) (E : XK), Ctx P w K mg base N scope k (cxOf (L2.CX P w) P w K mg base N qual scope f cdv A outer s H E) E → (cxOf (L2.CX P w) P w K mg base N qual scope f cdv A outer s H E).A.guards = some [] → ∃ ts, ASs K (cxOf (L2.CX P w) P w K mg base N qual scope f cdv A outer s H E) E body ts g) :
    FnG P w K mg base (k + 1) f (bodyM kp ps.length N g) := by
  obtain ⟨oc, od, dV, kV, doc, pm, an, cdv, ct, osl, rfl, lk, hcd, _, _⟩ := F.ex
  intro A outer s H us vs Q E hr hgd e0 r h
  have KX : K.In s.heap := e0.mod.kin.keeps fun b o e => (e0.bs b o e).1
  obtain ⟨G, as, ws, ds, W, rs, Pt⟩ := h
  unfold bodyM at Pt
  split at Pt
  · rename_i hl
    refine StX.run_bnd lk hcd S hr e0 (G := fun xs H2 => xs = vs ∧ H2 = H) (fun A' Ex Q' hk => ?_) fun s2 H2 xs ⟨ex, eH⟩ hr' => ?_
    · have z := hbi s us KX (by rw [List.append_nil, ← r.length, ← rs.len]; exact hl)
      rw [List.append_nil] at z
      exact z _ _ _ _ (hk s H vs us e0 Un.refl rfl (fun _ _ z => z) r (by rw [← rs.len]; exact hl) ⟨rfl, rfl⟩)
    · subst ex eH
      have tk : Takes (cxOf (L2.CX P w) P w K mg base N qual scope f cdv A outer s2 H2 E) fun cls d _ H => E cls d H := takes_of rfl rfl rfl rfl
      obtain ⟨ts, hT⟩ := hb cdv A outer s2 H2 E ⟨hr', tk, passes_call tk fun _ _ _ _ z => z, PassesOwn.leaving⟩ hgd
      exact ⟨ts, hT.pe, hT.ev _ ws G H2 as _ _ W (start_rep rs) (fin_post W Pt)⟩
  · exact False.elim Pt
structure CalG (X : Cx) (k : Nat) (E : XK) (x : Str) (m : Mf) : Prop where
  ok : ∃ f, FnG X.prog X.w X.K X.mg X.base k f m ∧ X.mg x = some (.ref f) ∧ PySem.W.keepIn X.K (.ref f) = true
  px : Passes (L2.CX X.prog X.w) X E
theorem ae_callG {K : PySem.W.Frag} {X : Cx} {E : XK} {k : Nat} {x : Str} {m : Mf} {e : Expr} {es : List Expr} {ta : TA} {sa : Sa} {p pos : Pos} (cl : CalG X k E x m) (hr : Room k X.A) (hgd : X.A.guards = some []) (ha : AA K X E (e :: es) ta sa) (hg : Gl X x := by rfl) (hdb : (x == ("__debug__" : Str)) = false := by decide)
    (hs : starEach (e :: es) X.env = (false, eval e X.env) :: starEach es X.env := by rfl) (hpl : (backTo pos (starEach es X.env)).any (·.1) = false := by rfl) : AE K X E (.Call (.Name x p) (e :: es) [] pos) (tCall (spM K m) [] E ta) (sCall m sa) := by
  have e0 := ha.hK
  subst e0
  obtain ⟨f, F, hm, hk⟩ := cl.ok
  refine ⟨rfl, ⟨fun pins s σ H Q I h => wpAny_Call_Name_kw (ld_glob I hg hm ?_ hdb)⟩, evCall ha.ev⟩
  refine PySem.W.callWith_K (h₀ := X.base) I.ok.mod.kin hk (thn (ha.pe.run pos pins s σ H _ I h) fun us s1 ⟨vs, H1, I1, r, q⟩ => ⟨I1.kIn, ?_⟩) hs hpl
  have q : spM X.K m (vs ++ []) H1 Q E := q
  rw [List.append_nil] at q
  refine wpAny_call (codeAny_mono (F X.A X.stack s1 H1 us vs Q E hr hgd I1.env0 r q) fun r' s' hq => ?_)
  cases r' with
  | error er => exact cl.px pins σ H1 s1 er s' I1 hq
  | ok fl =>
    cases fl with
    | ret w => exact I1.after hq
    | next => exact False.elim hq
    | brk => exact False.elim hq
    | cont => exact False.elim hq
end RL
set_option Elab.async false
set_option linter.all false
set_option maxRecDepth 100000
/-! RL17: defs by their addresses, facts about the text's classes as Bools, the head's own hook. -/
namespace RL
open PySem PySem.Spec PyProof.Rows L2
theorem un64 {k : Nat} {A : Around} (r : Room k A) : A.units + 64 < cLine := by
  have := r.un
  omega
theorem un65 {k : Nat} {A : Around} (r : Room k A) : A.units + 65 < cLine := by
  have := r.un
  omega
theorem len_one {a : Se} : ∀ (ρ : List (Option D)) (ws : List Ce) (l : List D) (ws' : List Ce), sCons a sNil ρ ws = .ok l ws' → l.length = 1 := by
  intro ρ ws l ws' h
  unfold sCons sNil at h
  cases e : a ρ ws with
  | ok x w1 =>
    rw [e] at h
    cases h
    rfl
  | ex x w1 =>
    rw [e] at h
    cases h
  | bad =>
    rw [e] at h
    cases h
/-- the def at the address f does m -/
structure Ok (P : Program) (w : World) (K : PySem.W.Frag) (mg : Str → Option Value) (base : Heap) (k : Nat) (f : Addr) (m : Mf) : Prop where
  ok : ∃ fd ps, FnOk P w K mg base (L2.CX P w) k f fd ps (spM K m) ∧ Binds K fd ps []
  kp : PySem.W.keepIn K (.ref f) = true
/-- the method mth of c does m -/
structure Mt (P : Program) (w : World) (K : PySem.W.Frag) (mg : Str → Option Value) (base : Heap) (k : Nat) (c mth : Str) (m : Mf) : Prop where
  ok : Ok P w K mg base k (He.ma K (He.ga K c) mth) m
  cl : Cls K (He.ga K c)
  me : Meth K (He.ga K c) mth (He.ma K (He.ga K c) mth)
  fi : PySem.W.fnIn K (He.ma K (He.ga K c) mth) = true
/-- the getter behind the property f of c -/
def prA (K : PySem.W.Frag) (c f : Str) : Addr := match PySem.W.findIn K (.ref (He.ga K c)) f with
  | some (some (.ref p)) => (match PySem.W.recIn K p "property" with
    | some (.ref g :: _) => g
    | _ => 0)
  | _ => 0
/-- the def behind the classmethod f of c -/
def cmA (K : PySem.W.Frag) (c f : Str) : Addr := match PySem.W.findIn K (.ref (He.ga K c)) f with
  | some (some (.ref p)) => (match PySem.W.recIn K p "classmethod" with
    | some (.ref g :: _) => g
    | _ => 0)
  | _ => 0
section
variable {P : Program} {w : World} {K : PySem.W.Frag} {mg : Str → Option Value} {base : Heap} {k : Nat} {x c c2 mth f : Str} {m : Mf} {X : Cx} {E : XK}
theorem cal_of (o : Ok P w K mg base k (He.ga K x) m) (g : mg x = some (.ref (He.ga K x))) : Cal P w K mg base k x m :=
  let ⟨fd, ps, F, hb⟩ := o.ok
  ⟨_, fd, ps, F, g, o.kp, hb⟩
theorem met_of (o : Mt P w K mg base k c mth m) : Met P w K mg base k c mth m :=
  let ⟨fd, ps, F, hb⟩ := o.ok.ok
  ⟨_, fd, ps, F, o.cl, o.me, hb⟩
theorem dun_of (o : Mt X.prog X.w X.K X.mg X.base k c mth m) (px : Passes (L2.CX X.prog X.w) X E) : Dun X k E c mth m :=
  let ⟨fd, ps, F, hb⟩ := o.ok.ok
  ⟨⟨_, fd, ps, F, o.me.at_, o.me.fn, o.fi, hb⟩, px⟩
theorem prc (cl : Cls X.K (He.ga X.K c)) (o : Ok X.prog X.w X.K X.mg X.base k (prA X.K c f) m) (h : ∃ p, PropOf X.K (He.ga X.K c) f p (prA X.K c f)) : PrC X k c f m :=
  let ⟨fd, ps, F, hb⟩ := o.ok
  let ⟨p, hp⟩ := h
  ⟨⟨p, _, fd, ps, hp, F, hb⟩, cl⟩
theorem cmc (o : Ok X.prog X.w X.K X.mg X.base k (cmA X.K c mth) m) (h : ∃ mc p, ClX.CRead X.K (He.ga X.K c) mc ∧ ClX.CMet X.K (He.ga X.K c) mc mth p (cmA X.K c mth)) (g : X.mg c = some (.ref (He.ga X.K c))) (px : Passes (L2.CX X.prog X.w) X E) : CmC X k E c c mth m :=
  let ⟨fd, ps, F, hb⟩ := o.ok
  let ⟨mc, p, h1, h2⟩ := h
  ⟨⟨mc, p, _, fd, ps, h1, h2, F, hb⟩, g, px⟩
theorem rcm_eq (o : Mt X.prog X.w X.K X.mg X.base k c "__eq__" m) (px : Passes (L2.CX X.prog X.w) X E) (nf : PySem.W.notFirst X.K (He.ga X.K c) (.ref (He.ga X.K c2)) = true) : RcM X k .Eq (qIns c c2 m) :=
  let ⟨fd, ps, F, hb⟩ := o.ok.ok
  rcM_ins F o.me.at_ o.me.fn hb px nf
theorem rcm_ne (o : Mt X.prog X.w X.K X.mg X.base k c "__eq__" m) (px : Passes (L2.CX X.prog X.w) X E) (nf : PySem.W.notFirst X.K (He.ga X.K c) (.ref (He.ga X.K c2)) = true)
    (ne : PySem.W.findIn X.K (.ref (He.ga X.K c)) "__ne__" = some (some (.builtin "object.__ne__")) ∧ PySem.W.mroIn X.K (He.ga X.K c) (.type "object") = some true) : RcM X (k + 1) .NotEq (qNot (qIns c c2 m)) :=
  let ⟨fd, ps, F, hb⟩ := o.ok.ok
  rcM_ne F o.me.at_ o.me.fn hb px nf ne.1 ne.2
theorem calg_of {f : Addr} (F : FnG X.prog X.w X.K X.mg X.base k f m ∧ PySem.W.keepIn X.K (.ref f) = true) (g : X.mg x = some (.ref f)) (px : Passes (L2.CX X.prog X.w) X E) : CalG X k E x m := ⟨⟨f, F.1, g, F.2⟩, px⟩
theorem itr_of (h : ∃ fd ps, FnOk X.prog X.w X.K X.mg X.base (L2.CX X.prog X.w) k (He.ma X.K (He.ga X.K c) "__iter__") fd ps (spIt X.K (He.ga X.K c) f) ∧ Binds X.K fd ps []) (me : Meth X.K (He.ga X.K c) "__iter__" (He.ma X.K (He.ga X.K c) "__iter__"))
    (o : Mt X.prog X.w X.K X.mg X.base k c "__len__" m) (px : Passes (L2.CX X.prog X.w) X E) : Itr1 X k E c f m :=
  let ⟨fd, ps, F, hb⟩ := h
  ⟨⟨_, fd, ps, F, me.at_, me.fn, hb⟩, dun_of o px⟩
end
/-! ### isinstance by a table -/
theorem lookup_in {t : Tn} {b : Bool} : ∀ {tab : List (Tn × Bool)}, tab.lookup t = some b → (t, b) ∈ tab
  | [], h => by cases h
  | (u, c) :: r, h => by
    have h2 : (match t == u with | true => some c | false => r.lookup t) = some b := h
    cases q : (t == u) with
    | true =>
      rw [q] at h2
      cases h2
      rw [beq_iff_eq.mp q]
      exact List.mem_cons_self
    | false =>
      rw [q] at h2
      exact List.mem_cons_of_mem _ (lookup_in h2)
def tabB (K : PySem.W.Frag) (tab : List (Tn × Bool)) (u : Value) : Bool := tab.all fun p => decide (PySem.W.kitOne K (tnV K p.1) u = some p.2)
theorem tab_of {K : PySem.W.Frag} {tab : List (Tn × Bool)} {u : Value} (h : tabB K tab u = true) (hc : ∀ p ∈ tab, ∀ n, p.1 = .c n → IsC K n) : TabOk K tab u := fun t b e => by
  have q := lookup_in e
  exact ⟨of_decide_eq_true (List.all_eq_true.mp h (t, b) q), fun n z => hc (t, b) q n z⟩
/-! ### facts as Bools -/
abbrev Tst := PySem.W.Frag → Bool
def iscB (c : Str) : Tst := fun K => He.Fa.ok K (.cls c) && (He.eqO (PySem.W.findIn K (.ref (He.ga K c)) "__class__") (some (some (.builtin "object.__class__"))) && decide (PySem.W.mroIn K (He.ga K c) (.type "object") = some true))
theorem isc_of {K : PySem.W.Frag} {c : Str} (h : iscB c K = true) : IsC K c := by
  obtain ⟨h1, h2⟩ := He.ba h
  obtain ⟨h3, h4⟩ := He.ba h2
  exact ⟨He.cls_ok h1, He.eqO_ok h3, of_decide_eq_true h4⟩
def isfB : Tst := fun K => He.eqO (PySem.W.specialIn K (.builtin "object.__class__") "__get__") (some (some (.builtin "getset_descriptor.__get__"))) && decide (PySem.W.takesIn K (.builtin "object.__class__") = some true)
theorem isf_of {K : PySem.W.Frag} (h : isfB K = true) : IsF K := by
  obtain ⟨h1, h2⟩ := He.ba h
  exact ⟨He.eqO_ok h1, of_decide_eq_true h2⟩
def headIs (o : Option (List Value)) (g : Addr) : Bool := match o with
  | some (.ref a :: _) => decide (a = g)
  | _ => false
theorem headIs_ok {o : Option (List Value)} {g : Addr} (h : headIs o g = true) : ∃ rest, o = some (.ref g :: rest) := by
  unfold headIs at h
  split at h
  · rename_i a r
    exact ⟨r, by rw [of_decide_eq_true h]⟩
  · cases h
/-- the record behind an attribute of a class -/
def atA (K : PySem.W.Frag) (c f : Str) : Addr := match PySem.W.findIn K (.ref (He.ga K c)) f with
  | some (some (.ref p)) => p
  | _ => 0
def propB (c f : Str) : Tst := fun K => He.eqO (PySem.W.findIn K (.ref (He.ga K c)) f) (some (some (.ref (atA K c f)))) && (He.eqO (PySem.W.specialIn K (.ref (atA K c f)) "__get__") (some (some (.builtin "property.__get__"))) &&
  (decide (PySem.W.takesIn K (.ref (atA K c f)) = some true) && headIs (PySem.W.recIn K (atA K c f) "property") (prA K c f)))
theorem prop_of {K : PySem.W.Frag} {c f : Str} (h : propB c f K = true) : ∃ p, PropOf K (He.ga K c) f p (prA K c f) := by
  obtain ⟨h1, h2⟩ := He.ba h
  obtain ⟨h3, h4⟩ := He.ba h2
  obtain ⟨h5, h6⟩ := He.ba h4
  exact ⟨_, He.eqO_ok h1, He.eqO_ok h3, of_decide_eq_true h5, headIs_ok h6⟩
def mcOf (K : PySem.W.Frag) (c : Str) : Value := (PySem.W.typeIn K (.ref (He.ga K c))).getD .none
def fclsIs (o : Option PySem.W.CFound) (p C : Addr) : Bool := match o with
  | some (.get (.builtin id) (.ref a) .none (.ref b)) => decide (id = "classmethod.__get__") && (decide (a = p) && decide (b = C))
  | _ => false
theorem fclsIs_ok {o : Option PySem.W.CFound} {p C : Addr} (h : fclsIs o p C = true) : o = some (.get (.builtin "classmethod.__get__") (.ref p) .none (.ref C)) := by
  unfold fclsIs at h
  split at h
  · obtain ⟨h1, h2⟩ := He.ba h
    obtain ⟨h3, h4⟩ := He.ba h2
    rw [of_decide_eq_true h1, of_decide_eq_true h3, of_decide_eq_true h4]
  · cases h
def cmB (c f : Str) : Tst := fun K => PySem.W.readsIn K (He.ga K c) (mcOf K c) && (He.eqO (PySem.W.specialIn K (.ref (He.ga K c)) "__getattribute__") (some (some (.builtin "type.__getattribute__"))) &&
  (fclsIs (PySem.W.findCls K (.ref (He.ga K c)) (mcOf K c) f) (atA K c f) (He.ga K c) && (headIs (PySem.W.recIn K (atA K c f) "classmethod") (cmA K c f) && PySem.W.fnIn K (cmA K c f))))
theorem cm_of {K : PySem.W.Frag} {c f : Str} (h : cmB c f K = true) : ∃ mc p, ClX.CRead K (He.ga K c) mc ∧ ClX.CMet K (He.ga K c) mc f p (cmA K c f) := by
  obtain ⟨h1, h2⟩ := He.ba h
  obtain ⟨h3, h4⟩ := He.ba h2
  obtain ⟨h5, h6⟩ := He.ba h4
  obtain ⟨h7, h8⟩ := He.ba h6
  exact ⟨_, _, ⟨h1, He.eqO_ok h3⟩, fclsIs_ok h5, headIs_ok h7, h8⟩
def someB (o : Option (Option Value)) : Bool := o.isSome
theorem some_of {o : Option (Option Value)} (h : someB o = true) : o = some (o.getD none) := by
  cases o with
  | none => cases h
  | some x => rfl
def binB (c T : Str) (T' : String) (op : Operator) : Tst := fun K => PySem.W.selfFirst K (He.ga K c) && (He.eqO (PySem.W.findIn K (.ref (He.ga K c)) (dunderR op.info.2)) (some none) && (someB (PySem.W.findIn K (.type T') (PySem.dunder op.info.2)) &&
  (someB (PySem.W.findIn K (.type T') (dunderR op.info.2)) && decide (PySem.W.subIn K (.type T') (.ref (He.ga K c)) = some false))))
theorem bin_of {K : PySem.W.Frag} {c T : Str} {T' : String} {op : Operator} (h : binB c T T' op K = true) : PySem.W.selfFirst K (He.ga K c) = true ∧ PySem.W.findIn K (.ref (He.ga K c)) (dunderR op.info.2) = some none ∧
    PySem.W.findIn K (.type T') (PySem.dunder op.info.2) = some ((PySem.W.findIn K (.type T') (PySem.dunder op.info.2)).getD none) ∧ PySem.W.findIn K (.type T') (dunderR op.info.2) = some ((PySem.W.findIn K (.type T') (dunderR op.info.2)).getD none) ∧ PySem.W.subIn K (.type T') (.ref (He.ga K c)) = some false := by
  obtain ⟨h1, h2⟩ := He.ba h
  obtain ⟨h3, h4⟩ := He.ba h2
  obtain ⟨h5, h6⟩ := He.ba h4
  obtain ⟨h7, h8⟩ := He.ba h6
  exact ⟨h1, He.eqO_ok h3, some_of h5, some_of h7, of_decide_eq_true h8⟩
def neB (c : Str) : Tst := fun K => He.eqO (PySem.W.findIn K (.ref (He.ga K c)) "__ne__") (some (some (.builtin "object.__ne__"))) && decide (PySem.W.mroIn K (He.ga K c) (.type "object") = some true)
theorem ne_of' {K : PySem.W.Frag} {c : Str} (h : neB c K = true) : PySem.W.findIn K (.ref (He.ga K c)) "__ne__" = some (some (.builtin "object.__ne__")) ∧ PySem.W.mroIn K (He.ga K c) (.type "object") = some true := by
  obtain ⟨h1, h2⟩ := He.ba h
  exact ⟨He.eqO_ok h1, of_decide_eq_true h2⟩
/-! ### the hook -/
/-- a def: its address by the text, its parts -/
structure Df where
  at_ : PySem.W.Frag → Addr
  name : Str
  qual : Str
  params : Arguments
  body : List Stmt
  scope : Scope
  kwd : List (Str × He.Dv) := []
def fnAt (K : PySem.W.Frag) (a : Addr) : He.FnW := match K.lookup a with
  | some ⟨_, _, .func fd, _⟩ => some (fd.name, fd.qualname, fd.params, fd.body, fd.scope, fd.globals, fd.closure, fd.builtins)
  | _ => none
def Df.val (d : Df) : He.FnW := some (d.name, d.qual, d.params, .stmts d.body, d.scope, mainGlobals, [], builtinsNs)
def Df.kws (K : PySem.W.Frag) (d : Df) : List (Str × V) := d.kwd.map fun q => (q.1, q.2.v K)
def Df.fine (K : PySem.W.Frag) (d : Df) : Bool := PySem.W.keepIn K (.ref (d.at_ K)) && (match K.lookup (d.at_ K) with
  | some ⟨_, _, .func fd, _⟩ => PySem.W.codeIn K fd.code d.qual && (He.dflB K fd.defaults [] && He.kwdB K fd.kwdefaults (d.kws K))
  | _ => false)
theorem Df.funD {K : PySem.W.Frag} {d : Df} (e : fnAt K (d.at_ K) = d.val) (c : d.fine K = true) : ∃ fd, FunD K d.name d.qual d.params d.body d.scope [] (d.kws K) (d.at_ K) fd := by
  obtain ⟨kp, r⟩ := He.ba c
  unfold fnAt at e
  cases q : K.lookup (d.at_ K) with
  | none =>
    rw [q] at r
    cases r
  | some o =>
    obtain ⟨oc, od, dt, osl⟩ := o
    rw [q] at r e
    cases dt with
    | func fd =>
      obtain ⟨a1, a2, a3, a4, a5, a6, a7, a8, a9, b1, b2, b3, b4, b5, b6⟩ := fd
      have e2 : (some (a1, a2, a3, a4, a5, a6, a7, b6) : He.FnW) = some (d.name, d.qual, d.params, .stmts d.body, d.scope, mainGlobals, [], builtinsNs) := e
      simp only [Option.some.injEq, Prod.mk.injEq] at e2
      obtain ⟨z1, z2, z3, z4, z5, z6, z7, z8⟩ := e2
      subst z1 z2 z3 z4 z5 z6 z7 z8
      have r2 : (PySem.W.codeIn K b4 d.qual && (He.dflB K a8 [] && He.kwdB K a9 (d.kws K))) = true := r
      obtain ⟨k1, k2⟩ := He.ba r2
      obtain ⟨k3, k4⟩ := He.ba k2
      exact ⟨_, ⟨oc, od, a8, a9, b1, b2, b3, b4, b5, osl, rfl, q, k1, He.dflB_ok k3, He.kwdB_ok k4⟩, kp⟩
    | _ => cases r
def obsK (ex : List Tst) (fn : List Df) (K : PySem.W.Frag) : He.AlD := ((ex.all fun e => e K) && fn.all fun d => d.fine K, fn.map fun d => fnAt K (d.at_ K))
def Says (ex : List Tst) (fn : List Df) (K : PySem.W.Frag) : Prop := obsK ex fn K = (true, fn.map Df.val)
def obsR (n : Nat) (ex : List Tst) (fn : List Df) (g : Addr → Option Obj) : He.AlD := obsK ex fn (He.frG g (cStatics :: He.asD g n))
def hookR (n : Nat) (ex : List Tst) (fn : List Df) : PySem.W.Hook where
  α := He.AlD
  obs := fun s => obsR n ex fn s.heap.get?
  val := fun _ => (true, fn.map Df.val)
  says := fun _ h => ∃ K : PySem.W.Frag, K.In h ∧ Says ex fn K
  of := fun _ _ e => ⟨_, He.frG_in, e⟩
  keeps := fun _ _ _ ⟨K, hK, c⟩ k => ⟨K, PySem.W.Frag.In.keeps hK k, c⟩
theorem obsR_eq {n : Nat} {ex : List Tst} {fn : List Df} {g : Addr → Option Obj} {s : Shared} (h : ∀ a, g a = s.heap.get? a) : obsR n ex fn g = (hookR n ex fn).obs s := by
  have e : g = s.heap.get? := funext h
  subst e
  rfl
section
variable {ex : List Tst} {fn : List Df} {K : PySem.W.Frag}
theorem Says.fact (c : Says ex fn K) (i : Nat) {e : Tst} (h : ex[i]? = some e := by rfl) : e K = true :=
  List.all_eq_true.mp (He.ba (show ((ex.all fun e => e K) && fn.all fun d => d.fine K) = true from congrArg (fun z : He.AlD => z.1) c)).1 e (List.mem_of_getElem? h)
theorem Says.def_ (c : Says ex fn K) (i : Nat) {d : Df} (h : fn[i]? = some d := by rfl) : ∃ fd, FunD K d.name d.qual d.params d.body d.scope [] (d.kws K) (d.at_ K) fd := by
  have f1 := (He.ba (show ((ex.all fun e => e K) && fn.all fun d => d.fine K) = true from congrArg (fun z : He.AlD => z.1) c)).2
  have f2 : fn.map (fun d => fnAt K (d.at_ K)) = fn.map Df.val := congrArg (fun z : He.AlD => z.2) c
  have f3 : (fn.map fun d => fnAt K (d.at_ K))[i]? = (fn.map Df.val)[i]? := by rw [f2]
  rw [List.getElem?_map, List.getElem?_map, h] at f3
  exact Df.funD (Option.some.inj f3) (List.all_eq_true.mp f1 d (List.mem_of_getElem? h))
end
end RL
set_option Elab.async false
set_option linter.all false
set_option maxRecDepth 100000
/-! RL18: the law's call, its def told by m and run while no repr is under way; tables of code objects. -/
namespace RL
open PySem PySem.Spec PyProof.Rows L2
/-- the defs that make lambdas: their code objects and tables -/
def csK (K : PySem.W.Frag) : List (Addr × Addr) := lamNames.filterMap fun x => PySem.W.tabIn K x
def lamB (recs : List Str) (K : PySem.W.Frag) : Bool := ((csK K).all fun p => (K.lookup p.2).isNone) && lamNames.all fun x => recs.contains x || (PySem.W.tabIn K x).isNone
theorem tabsK_cs {K : PySem.W.Frag} {p : Addr × Str} (h : p ∈ tabsK K) : ∃ c, (c, p.1) ∈ csK K := by
  obtain ⟨x, hx, e⟩ := List.mem_filterMap.mp h
  obtain ⟨c, e1, e2⟩ := Option.map_eq_some_iff.mp e
  subst e2
  exact ⟨c.1, List.mem_filterMap.mpr ⟨x, hx, e1⟩⟩
/-- what is never written, of a heap -/
def noTb (H : Hp) : Hp := fun b => match H b with
  | some (.tbl _) => none
  | o => o
theorem noTb_le (H : Hp) : Same (noTb H) H := fun b o e => by
  unfold noTb at e
  split at e
  · cases e
  · exact e
theorem noTb_ng (H : Hp) (b : Addr) (ps : Array Value) : noTb H b ≠ some (.tbl ps) := fun e => by
  unfold noTb at e
  split at e
  · cases e
  · rename_i h
    exact h ps e
theorem noTb_at {H : Hp} {b : Addr} {o : HO} (e : H b = some o) (h : ∀ ps, o ≠ .tbl ps) : noTb H b = some o := by
  unfold noTb
  split
  · rename_i ps q
    rw [e] at q
    exact absurd (Option.some.inj q) (h ps)
  · exact e
theorem noTb_sq {K : PySem.W.Frag} {H : Hp} {a : Addr} {xs : List V} (h : SqL K H a xs) : SqL K (noTb H) a xs := by
  rcases h with (h | ⟨o, h⟩) | h
  · exact .inl (.inl (noTb_at h (by intro _ z; cases z)))
  · exact .inl (.inr ⟨o, noTb_at h (by intro _ z; cases z)⟩)
  · exact .inr h
theorem law_end {P : Program} {w : World} {K : PySem.W.Frag} {mg mb : Str → Option Value} {k : Nat} {fa a : Addr} {m : Mf} {t : Shared} {vs : List Value} {ns : List Int} (KX : K.In t.heap) (n1 : t.heap.Ns mainGlobals mg) (n2 : t.heap.Ns builtinsNs mb) (n3 : ∀ x : Str, x ≠ "__name__" → mb x = bootBuiltins x)
    (n4 : t.heap.NoLimit) (n5 : t.gens = #[]) (hT : ∀ p ∈ csK K, t.heap.get? p.2 = some { cls := .none, data := .fields #[] }) (nT : ∀ p ∈ csK K, K.lookup p.2 = none) (C : ∀ p ∈ csK K, PySem.W.CodeHd t.heap p.1 p.2)
    (hbm : ∃ (bm : Addr) (ob : Obj), mg "__builtins__" = some (.ref bm) ∧ bm ≠ builtinsNs ∧ t.heap.get? bm = some ob ∧ ob.cls = .type "module" ∧ ob.dict = some builtinsNs ∧ ob.data = .plain)
    (la : t.heap.get? a = some { cls := .type "list", data := .seq vs.toArray }) (li : IntsAre vs ns) (ll : ns.length ≤ sizeLine) (hr : Room k callerA) (F : ∀ base : Heap, K.In base → base.Ns mainGlobals mg → (∀ p ∈ csK K, LamX.TabB base mg p.1 p.2) → FnG P w K mg base k fa m)
    (hm : m [.fz (ns.map .int)] [] = .ok (.bl true) []) : codeAny (model P w) callerA (.call (.ref fa) ⟨[.ref a], []⟩) (fun r s' => r = .ok (.ret (.bool true)) ∧ OldK t.heap s'.heap ∧ s'.os = t.os ∧ AllBare s'.gens) t := by
  have rv := L2.vals_ints li
  have lv := li.length
  have isT : ∀ b : Addr, b ∈ (csK K).map (·.2) → t.heap.get? b = some { cls := .none, data := .fields #[] } := fun b hb => by
    obtain ⟨p, hp, e⟩ := List.mem_map.mp hb
    rw [← e]
    exact hT p hp
  have aT : a ∉ (csK K).map (·.2) := fun z => by
    have q := isT a z
    rw [la] at q
    have z' : Data.seq vs.toArray _ = Data.fields #[] := congrArg Obj.data (Option.some.inj q)
    cases z'
  have memT : ∀ p ∈ csK K, p.2 ∈ (csK K).map (·.2) := fun p hp => List.mem_map.mpr ⟨p, hp, rfl⟩
  have core : ∀ H : Hp, (∀ p ∈ csK K, H p.2 = some (.tbl #[])) → (∀ b, H b = none ∨ b ∈ (csK K).map (·.2) ∨ (b = a ∧ ∃ o xs, H b = some (.frz o (.lst xs)))) → SqL K H a (ns.map V.int) → HOk P w H t.heap → (H a ≠ none → K.lookup a = none) →
      codeAny (model P w) callerA (.call (.ref fa) ⟨[.ref a], []⟩) (fun r s' => r = .ok (.ret (.bool true)) ∧ OldK t.heap s'.heap ∧ s'.os = t.os ∧ AllBare s'.gens) t := by
    intro H hH only sq hok nk
    have seen : ∀ {b : Addr} {o : Obj}, t.heap.get? b = some o → H b = none → (hidT t.heap H).get? b = some o := fun e z => hidT_get e z
    have free : ∀ {b : Addr} {o : Obj}, t.heap.get? b = some o → (∀ vs n, o.data ≠ .seq vs n) → o.data ≠ .fields #[] → H b = none := fun {b o} e h1 h2 => by
      rcases only b with q | q | ⟨q, _⟩
      · exact q
      · rw [isT b q] at e
        cases e
        exact absurd rfl h2
      · rw [q, la] at e
        cases e
        exact absurd rfl (h1 _ _)
    have notA : ∀ {b : Addr} {o : Obj} {es : Array DictEntry} {ep : Nat}, t.heap.get? b = some o → o.data = .dict es ep → H b = none := fun {b o es ep} e z => free e (fun vs n y => by rw [z] at y; cases y) fun y => by rw [z] at y; cases y
    have ns' : ∀ {b : Addr} {f : Str → Option Value}, t.heap.Ns b f → (hidT t.heap H).Ns b f := fun {b f} ⟨o, es, ep, e, z, r⟩ => ⟨o, es, ep, seen e (notA e z), z, r⟩
    have inK : K.In (hidT t.heap H) := fun b o e => seen (KX b o e) (by
      rcases only b with q | q | ⟨q1, o', xs, q2⟩
      · exact q
      · obtain ⟨p, hp, ep⟩ := List.mem_map.mp q
        rw [← ep, nT p hp] at e
        cases e
      · subst q1
        rw [nk (by rw [q2]; simp)] at e
        cases e)
    have md : Mod K mg (hidT t.heap H) := ⟨inK, ns' n1, ⟨mb, ns' n2, n3⟩, let ⟨mc, z1, z2⟩ := n4; ⟨mc, ns' z1, z2⟩⟩
    have TB : ∀ p ∈ csK K, LamX.TabB (hidT t.heap H) mg p.1 p.2 := fun p hp => by
      have hTp := hT p hp
      refine ⟨?_, ?_, fun z => ?_⟩
      · obtain ⟨o, us, file, tf, flags, tg, inF, text, tt, e1, r1, r2, r3, r4, r5, r6, r7, r8, hne⟩ := C p hp
        refine ⟨o, us, file, tf, flags, tg, inF, text, tt, seen e1 (free e1 (fun vs n z => ?_) fun z => ?_), r1, r2, r3, r4, r5, r6, r7, r8, hne⟩
        · rw [r2] at z
          cases z
        · rw [r2] at z
          cases z
          simp at r3
      · obtain ⟨bm, ob, b1, b2, b3, b4, b5, b6⟩ := hbm
        have nG : bm ≠ mainGlobals := fun q => by
          obtain ⟨o, es, ep, e, hd, _⟩ := n1
          rw [q, e] at b3
          cases b3
          rw [hd] at b6
          cases b6
        have nP : bm ≠ p.2 := fun q => by
          rw [q, hTp] at b3
          cases b3
          cases b6
        refine ⟨bm, ob, b1, b2, nG, nP, seen b3 (free b3 (fun vs n z => ?_) fun z => ?_), b4, b5, b6⟩
        · rw [b6] at z
          cases z
        · rw [b6] at z
          cases z
      · obtain ⟨o, es, ep, e, hd, _⟩ := n1
        rw [z, hTp] at e
        cases e
        cases hd
    have e0 : Env0 P w K mg (hidT t.heap H) callerA [] t H := ⟨rfl, md, fun b o e => of_hidT e, Nat.le_of_eq (hidT_size _ _), trivial, fun b z => (nomatch z), hok, .of_eq n5⟩
    have tb : LamX.Tabs (tabsK K) H := fun p hp => by
      obtain ⟨c, hc⟩ := tabsK_cs hp
      exact LamX.TabS.nil (hH _ hc)
    have sp : spM K m [.ref a] H (fun v _ => v = .bl true) E0 := by
      refine ⟨noTb H, [], [], [.fz (ns.map .int)], ⟨noTb_le H, rfl, List.nodup_nil, fun _ z => (nomatch z), fun i c b z => by simp at z, tb, noTb_ng H⟩, Reps.one ?_, ?_⟩
      · simp only [Rep]
        refine ⟨a, _, rfl, noTb_sq sq, ?_⟩
        have : ∀ l : List Int, Reps K [] (noTb H) (l.map .int) (l.map V.int) := fun l => by
          induction l with
          | nil => exact Reps.nil
          | cons x l ih => exact Reps.cons (by simp [Rep]) ih
        exact this ns
      · rw [hm]
        exact fun v G' H' as' _ _ r => by simpa [Rep] using r
    refine codeAny_mono (F _ inK (ns' n1) TB callerA [] t H [.ref a] [.ref a] _ _ hr rfl e0 (.cons (show RelV (V.ref a) (Value.ref a) from rfl) .nil) sp) fun r s' z => ?_
    cases r with
    | error e =>
      obtain ⟨_, _, _, _, _, _, _, _, _, _, _, _, y⟩ := z
      exact y.elim
    | ok fl =>
      cases fl with
      | next => exact False.elim z
      | brk => exact False.elim z
      | cont => exact False.elim z
      | ret u =>
        obtain ⟨v, H', os, bare, un, hok', rr, q⟩ := z
        have q' : v = .bl true := q
        subst q'
        obtain rfl : u = Value.bool true := rr
        have key : ∀ b o, b ∉ (csK K).map (·.2) → t.heap.get? b = some o → s'.heap.get? b = some o := fun b o nb e => by
          rcases only b with q | q | ⟨q1, ob, xs, q2⟩
          · exact un.keep b o e q (fun y => nomatch y) (fun y => nomatch y)
          · exact absurd q nb
          · obtain ⟨y1, _⟩ := hok b _ q2
            obtain ⟨y2, _⟩ := hok' b _ (un.frzs b ob _ q2)
            rw [e] at y1
            cases y1
            exact y2
        have grown : ∀ p ∈ csK K, ∃ more : Array Value, s'.heap.get? p.2 = some { cls := .none, data := .fields more } := fun p hp => by
          obtain ⟨more, z⟩ := un.tbls p.2 #[] (hH p hp)
          exact ⟨_, hok' p.2 _ z⟩
        refine ⟨rfl, ⟨fun b o e => ?_, fun b o e => ?_⟩, os, bare⟩
        · by_cases hb : b ∈ (csK K).map (·.2)
          · obtain ⟨p, hp, ep⟩ := List.mem_map.mp hb
            obtain ⟨more, hmo⟩ := grown p hp
            rw [← ep] at e ⊢
            rw [hT p hp] at e
            cases e
            exact .inr (.inl ⟨((C p hp).tab (hT p hp)).isCodeTable, rfl, #[], more, rfl, by rw [Array.empty_append]; exact hmo⟩)
          · exact .inl (key b o hb e)
        · by_cases hb : b ∈ (csK K).map (·.2)
          · obtain ⟨p, hp, ep⟩ := List.mem_map.mp hb
            obtain ⟨more, hmo⟩ := grown p hp
            rw [← ep]
            exact ⟨_, hmo⟩
          · exact ⟨o, key b o hb e⟩
  cases hk : K.lookup a with
  | some o =>
    have e := KX a o hk
    rw [la] at e
    cases e
    refine core (fun b => if b ∈ (csK K).map (·.2) then some (.tbl #[]) else none) (fun p hp => if_pos (memT p hp)) (fun b => ?_) (.inr ⟨_, vs.toArray, _, hk, rfl, rfl, rfl, by rw [List.size_toArray, lv]; exact ll, by simpa using rv⟩) (fun b u z => ?_) fun z => absurd (show (if a ∈ (csK K).map (·.2) then some (HO.tbl #[]) else none) = none from if_neg aT) z
    · by_cases hb : b ∈ (csK K).map (·.2)
      · exact .inr (.inl hb)
      · exact .inl (if_neg hb)
    · by_cases hb : b ∈ (csK K).map (·.2)
      · have z' := (if_pos hb).symm.trans z
        cases z'
        exact isT b hb
      · have z' := (if_neg hb).symm.trans z
        cases z'
  | none =>
    refine core (fun b => if b = a then some (.frz { cls := .type "list", data := .seq vs.toArray } (.lst (ns.map V.int))) else if b ∈ (csK K).map (·.2) then some (.tbl #[]) else none) (fun p hp => (if_neg (show ¬ p.2 = a from fun z => aT (by rw [← z]; exact memT p hp))).trans (if_pos (memT p hp)))
      (fun b => ?_) (.inl (.inr ⟨{ cls := .type "list", data := .seq vs.toArray }, if_pos rfl⟩)) (fun b u z => ?_) fun _ => hk
    · by_cases hb : b = a
      · exact .inr (.inr ⟨hb, _, _, if_pos hb⟩)
      · by_cases hb2 : b ∈ (csK K).map (·.2)
        · exact .inr (.inl hb2)
        · exact .inl ((if_neg hb).trans (if_neg hb2))
    · by_cases hb : b = a
      · have y := (if_pos hb).symm.trans z
        cases y
        subst hb
        exact ⟨la, by rw [List.length_map]; exact ll, vs, _, rv, la⟩
      · have z1 := (if_neg hb).symm.trans z
        by_cases hb2 : b ∈ (csK K).map (·.2)
        · have z' := (if_pos hb2).symm.trans z1
          cases z'
          exact isT b hb2
        · have z' := (if_neg hb2).symm.trans z1
          cases z'
/-- the goal that the head leaves, from what the law's def does -/
theorem walk_end {l : PySem.W.OpenLaw} {n k : Nat} {q : Program} {loose : List Str} {XP : (Str → Option Value) → Heap → Prop} {YP : World → Heap → Prop} {d : DefRec} {m : Mf} (recs : List Str) (hn : l.most = some n) (hn2 : n ≤ sizeLine) (hdf : d.params.defaults = []) (hr : Room k callerA)
    (hrec : ∀ x ∈ recs, ((recsOf q).find? fun e => e.name == x).isSome = true)
    (F : ∀ (w : World) (mg : Str → Option Value) (fa : Addr) (h : Heap), YP w h → h.Ns mainGlobals mg → mg d.name = some (.ref fa) → ∃ K : PySem.W.Frag, K.In h ∧ lamB recs K = true ∧ ∀ base : Heap, K.In base → base.Ns mainGlobals mg → (∀ p ∈ csK K, LamX.TabB base mg p.1 p.2) → FnG l.prog w K mg base k fa m)
    (hm : ∀ ns : List Int, ns.length ≤ n → (∀ i ∈ ns, Builtin.Int.intBits i ≤ 1048576) → m [.fz (ns.map .int)] [] = .ok (.bl true) []) : PySem.W.WalkO q loose XP YP l.row.toRowW d [] (fun f vs => PySem.call f vs) := by
  refine Att.attach_callB hn hdf fun w s₀ s₁ mg mb fa o pm cd doc a vs ns G Y ho hd hcd hmg hobj hints hlen hbits hg => ?_
  obtain ⟨K, KX, hB, hF⟩ := F w mg fa _ Y G.T.g hmg
  obtain ⟨b1, b2⟩ := Bool.and_eq_true_iff.mp hB
  have nT : ∀ p ∈ csK K, K.lookup p.2 = none := fun p hp => by
    have := List.all_eq_true.mp b1 p hp
    exact Option.isNone_iff_eq_none.mp this
  have both : ∀ p ∈ csK K, PySem.W.CodeHd s₁.heap p.1 p.2 ∧ s₁.heap.get? p.2 = some (PySem.W.tabObj #[]) := fun p hp => by
    obtain ⟨x, hx, e⟩ := List.mem_filterMap.mp hp
    have hx2 := List.all_eq_true.mp b2 x hx
    rcases Bool.or_eq_true_iff.mp hx2 with z | z
    · obtain ⟨d', hd'⟩ := Option.isSome_iff_exists.mp (hrec x (List.contains_iff_mem.mp z))
      exact PySem.W.tab_of G.T KX hd' e
    · rw [Option.isNone_iff_eq_none.mp z] at e
      cases e
  exact law_end KX G.T.g G.T.b G.T.builtins G.T.nolimit hg (fun p hp => (both p hp).2) nT (fun p hp => (both p hp).1) G.T.bmain hobj hints (Nat.le_trans hlen hn2) hr hF (hm ns hlen hbits)
end RL
set_option Elab.async false
set_option linter.all false
/-! RL19: telling what the mirrors do -/
namespace RL
open PySem L2
/-- for simp, ahead of a bind's parts: so that what goes on is looked at last -/
theorem bind_m {α β : Type} {r : R α} {f : α → List Ce → R β} : r.bind f = match r with
  | .ok a ws => f a ws
  | .ex e ws => .ex e ws
  | .bad => .bad := rfl
theorem cut_app (ws xs : List Ce) : cutOk ws (ws ++ xs) := fun i hi => .inl (List.getElem?_append_left hi)
theorem take_app (ws xs : List Ce) : (ws ++ xs).take ws.length = ws := by simp
/-- the end of a def that made the cells xs -/
theorem frz_app {ws xs : List Ce} {d d' : D} (h : frzD ws.length (ws ++ xs) d = some d') (h0 : xs = [] → d' = d) : frzR ws (.ok d (ws ++ xs)) = .ok d' ws := by
  unfold frzR
  by_cases e : xs = []
  · subst e
    rw [h0 rfl]
    simp
  · have : (ws ++ xs).length ≠ ws.length := by
      have := List.length_pos_iff.mpr e
      rw [List.length_append]
      omega
    simp only [this, if_false, h, cut_app, if_true, take_app]
theorem frz_len {ws ws' : List Ce} {d : D} (h : ws'.length = ws.length) : frzR ws (.ok d ws') = .ok d ws' := by simp [frzR, h]
theorem frz_same (ws : List Ce) (d : D) : frzR ws (.ok d ws) = .ok d ws := frz_len rfl
/-- a body that ends well with the same store -/
theorem fin_rt {kp : Bool} {ws : List Ce} {ρ : List (Option D)} {d : D} : fin kp ws (.ok (ρ, .rt d) ws) = .ok d ws := by
  cases kp <;> simp [fin, flR, frz_same]
theorem fin_nx {kp : Bool} {ws : List Ce} {ρ : List (Option D)} : fin kp ws (.ok (ρ, .nx) ws) = .ok .non ws := by
  cases kp <;> simp [fin, flR, frz_same]
theorem fin_rtL {ws ws' : List Ce} {ρ : List (Option D)} {d : D} (h : ws'.length = ws.length) : fin false ws (.ok (ρ, .rt d) ws') = .ok d ws' := by
  simp [fin, flR, frz_len h]
theorem fin_nxL {ws ws' : List Ce} {ρ : List (Option D)} (h : ws'.length = ws.length) : fin false ws (.ok (ρ, .nx) ws') = .ok .non ws' := by
  simp [fin, flR, frz_len h]
theorem fin_rtA {ws xs : List Ce} {ρ : List (Option D)} {d d' : D} (h : frzD ws.length (ws ++ xs) d = some d') (h0 : xs = [] → d' = d) : fin false ws (.ok (ρ, .rt d) (ws ++ xs)) = .ok d' ws := by
  simp [fin, flR, frz_app h h0]
theorem fin_nxA {ws xs : List Ce} {ρ : List (Option D)} : fin false ws (.ok (ρ, .nx) (ws ++ xs)) = .ok .non ws := by
  simp [fin, flR, frz_app (d := .non) (d' := .non) rfl (fun _ => rfl)]
/-! lists -/
theorem lc_map {src : Option Nat} {t : Tg} {el : Se} {ρ : List (Option D)} {f : D → D} {ws : List Ce} {all : List D} (hs : SrcOk src all ws) :
    ∀ (ds acc : List D), acc.length + ds.length ≤ 100000 → (∀ d ∈ ds, ∃ ρ1, t d ρ ws = .ok ρ1 ws ∧ el ρ1 ws = .ok (f d) ws) → loopLc all src t sYes el ρ ds acc ws = .ok (acc ++ ds.map f) ws
  | [], acc, _, _ => by simp [loopLc, hs]
  | d :: ds, acc, hl, h => by
    obtain ⟨ρ1, h1, h2⟩ := h d (List.mem_cons_self ..)
    have hl' : acc.length < 100000 := by
      simp only [List.length_cons] at hl
      omega
    have z := lc_map (f := f) hs ds (acc ++ [f d]) (by simp at hl ⊢; omega) (fun x hx => h x (List.mem_cons_of_mem _ hx))
    simp only [loopLc, hs, if_true, h1, h2, nox, R.bind_ok, sYes, hl', z]
    simp
theorem lc_filt {src : Option Nat} {t : Tg} {c : Sb} {el : Se} {ρ : List (Option D)} {f : D → D} {p : D → Bool} {ws : List Ce} {all : List D} (hs : SrcOk src all ws) :
    ∀ (ds acc : List D), acc.length + ds.length ≤ 100000 → (∀ d ∈ ds, ∃ ρ1, t d ρ ws = .ok ρ1 ws ∧ c ρ1 ws = .ok (p d) ws ∧ el ρ1 ws = .ok (f d) ws) →
    loopLc all src t c el ρ ds acc ws = .ok (acc ++ (ds.filter p).map f) ws
  | [], acc, _, _ => by simp [loopLc, hs]
  | d :: ds, acc, hl, h => by
    obtain ⟨ρ1, h1, h2, h3⟩ := h d (List.mem_cons_self ..)
    have hl' : acc.length < 100000 := by
      simp only [List.length_cons] at hl
      omega
    by_cases e : p d = true
    · have z := lc_filt (f := f) (p := p) (c := c) hs ds (acc ++ [f d]) (by simp at hl ⊢; omega) (fun x hx => h x (List.mem_cons_of_mem _ hx))
      simp only [loopLc, hs, if_true, h1, h2, h3, nox, R.bind_ok, hl', z, e]
      simp [e]
    · have z := lc_filt (f := f) (p := p) (c := c) hs ds acc (by simp at hl ⊢; omega) (fun x hx => h x (List.mem_cons_of_mem _ hx))
      simp only [loopLc, hs, if_true, h1, h2, nox, R.bind_ok, z, e]
      simp [e]
theorem src_none (ds : List D) (ws : List Ce) : SrcOk none ds ws := trivial
/-- a loop that does not write, ends with the slots told by f -/
theorem for_fold {src : Option Nat} {t : Tg} {body : Ss} {ws : List Ce} {all : List D} (hs : SrcOk src all ws) (I : List D → List (Option D) → Prop) :
    ∀ (ds : List D) (ρ : List (Option D)), I ds ρ → (∀ d r ρ, I (d :: r) ρ → ∃ ρ1 ρ2, t d ρ ws = .ok ρ1 ws ∧ body ρ1 ws = .ok (ρ2, .nx) ws ∧ I r ρ2) → ∃ ρ', loopFor all src t body ds ρ ws = .ok (ρ', .nx) ws ∧ I [] ρ'
  | [], ρ, i, _ => ⟨ρ, by simp [loopFor, hs], i⟩
  | d :: ds, ρ, i, h => by
    obtain ⟨ρ1, ρ2, h1, h2, h3⟩ := h d ds ρ i
    obtain ⟨ρ', z1, z2⟩ := for_fold hs I ds ρ2 h3 h
    exact ⟨ρ', by simp only [loopFor, hs, if_true, h1, h2, R.bind_ok, z1], z2⟩
/-- a loop over values alone, the store changing -/
theorem for_inv {t : Tg} {body : Ss} {all : List D} (I : List D → List (Option D) → List Ce → Prop) :
    ∀ (ds : List D) (ρ : List (Option D)) (ws : List Ce), I ds ρ ws → (∀ d r ρ ws, I (d :: r) ρ ws → ∃ ρ1 ws1 ρ2 ws2, t d ρ ws = .ok ρ1 ws1 ∧ body ρ1 ws1 = .ok (ρ2, .nx) ws2 ∧ I r ρ2 ws2) →
    ∃ ρ' ws', loopFor all none t body ds ρ ws = .ok (ρ', .nx) ws' ∧ I [] ρ' ws'
  | [], ρ, ws, i, _ => ⟨ρ, ws, by simp [loopFor, SrcOk], i⟩
  | d :: ds, ρ, ws, i, h => by
    obtain ⟨ρ1, ws1, ρ2, ws2, h1, h2, h3⟩ := h d ds ρ ws i
    obtain ⟨ρ', ws', z1, z2⟩ := for_inv (all := all) I ds ρ2 ws2 h3 h
    exact ⟨ρ', ws', by simp only [loopFor, SrcOk, if_true, h1, h2, R.bind_ok, z1], z2⟩
/-- a comprehension over values, the store changing -/
theorem lc_inv {t : Tg} {c : Sb} {el : Se} {ρ : List (Option D)} {all : List D} (I : List D → List D → List Ce → Prop) :
    ∀ (ds acc : List D) (ws : List Ce), acc.length + ds.length ≤ 100000 → I ds acc ws → (∀ d r acc ws, I (d :: r) acc ws → ∃ ρ1 ws1 b ws2, t d ρ ws = .ok ρ1 ws1 ∧ c ρ1 ws1 = .ok b ws2 ∧
      ((b = true ∧ ∃ y ws3, el ρ1 ws2 = .ok y ws3 ∧ I r (acc ++ [y]) ws3) ∨ (b = false ∧ I r acc ws2))) → ∃ l ws', loopLc all none t c el ρ ds acc ws = .ok l ws' ∧ I [] l ws'
  | [], acc, ws, _, i, _ => ⟨acc, ws, by simp [loopLc, SrcOk], i⟩
  | d :: ds, acc, ws, hl, i, h => by
    obtain ⟨ρ1, ws1, b, ws2, h1, h2, h3⟩ := h d ds acc ws i
    have hl' : acc.length < 100000 := by
      simp only [List.length_cons] at hl
      omega
    rcases h3 with ⟨rfl, y, ws3, h3, h4⟩ | ⟨rfl, h4⟩
    · obtain ⟨l, ws', z1, z2⟩ := lc_inv (all := all) I ds (acc ++ [y]) ws3 (by simp at hl ⊢; omega) h4 h
      exact ⟨l, ws', by simp only [loopLc, SrcOk, if_true, h1, h2, h3, nox, R.bind_ok, hl', z1], z2⟩
    · obtain ⟨l, ws', z1, z2⟩ := lc_inv (all := all) I ds acc ws2 (by simp at hl ⊢; omega) h4 h
      exact ⟨l, ws', by simp only [loopLc, SrcOk, if_true, h1, h2, nox, R.bind_ok, z1, Bool.false_eq_true, if_false], z2⟩
/-! plain data -/
theorem py_ints : ∀ S : List Int, toPys0 (S.map .int) = some (S.map PyData.int)
  | [] => rfl
  | a :: S => by simp [toPys0, toPy0, py_ints S]
theorem lay_ints : ∀ S : List Int, PyData.canLayAll0 (S.map PyData.int) = true
  | [] => rfl
  | a :: S => by simp [PyData.canLayAll0, PyData.canLay0, lay_ints S]
theorem eqv_ints : ∀ S T : List Int, PyData.eqvAll (S.map PyData.int) (T.map PyData.int) = decide (S = T)
  | [], [] => rfl
  | [], _ :: _ => rfl
  | _ :: _, [] => rfl
  | a :: S, b :: T => by
    simp only [List.map_cons, PyData.eqvAll, PyData.eqv, eqv_ints S T, List.cons.injEq, Bool.decide_and]
    congr 1
theorem dep_ints : ∀ S : List Int, PyData.depthAll (S.map PyData.int) = 0
  | [] => rfl
  | a :: S => by simp [PyData.depthAll, PyData.depth, dep_ints S]
/-- a tuple of numbers, a list of such tuples -/
def dNums (s : List Int) : D := .tup (s.map .int)
def pNums (s : List Int) : PyData := .tuple (s.map .int)
theorem py_nums (s : List Int) : toPy0 (dNums s) = some (pNums s) := by simp [dNums, pNums, toPy0, py_ints]
theorem lay_nums (s : List Int) : (pNums s).canLay0 = true := by simp [pNums, PyData.canLay0, lay_ints]
theorem dep_nums (s : List Int) : (pNums s).depth = 1 := by simp [pNums, PyData.depth, dep_ints]
theorem eqv_nums (s t : List Int) : PyData.eqv (pNums s) (pNums t) = decide (s = t) := by simp only [pNums, PyData.eqv, eqv_ints]
theorem py_numss : ∀ l : List (List Int), toPys0 (l.map dNums) = some (l.map pNums)
  | [] => rfl
  | a :: l => by simp [toPys0, py_nums, py_numss l]
theorem lay_numss : ∀ l : List (List Int), PyData.canLayAll0 (l.map pNums) = true
  | [] => rfl
  | a :: l => by simp [PyData.canLayAll0, lay_nums, lay_numss l]
theorem dep_numss : ∀ l : List (List Int), PyData.depthAll (l.map pNums) ≤ 1
  | [] => by simp [PyData.depthAll]
  | a :: l => by
    have := dep_numss l
    simp only [List.map_cons, PyData.depthAll, dep_nums]
    omega
theorem eqv_numss : ∀ k l : List (List Int), PyData.eqvAll (k.map pNums) (l.map pNums) = decide (k = l)
  | [], [] => rfl
  | [], _ :: _ => rfl
  | _ :: _, [] => rfl
  | a :: k, b :: l => by
    simp only [List.map_cons, PyData.eqvAll, eqv_nums, eqv_numss k l, List.cons.injEq, Bool.decide_and]
theorem any_numss (s : List Int) : ∀ l : List (List Int), ((l.map pNums).any fun z => PyData.eqv z (pNums s)) = decide (s ∈ l)
  | [] => by simp
  | a :: l => by
    simp only [List.map_cons, List.any_cons, eqv_nums, any_numss s l, List.mem_cons, Bool.decide_or]
    congr 1
    exact decide_eq_decide.mpr eq_comm
theorem sh_ints (S : List Int) : SeqAt.shaped (.list (S.map PyData.int)) = true := by simp [SeqAt.shaped, PyData.canLay0, lay_ints, PyData.depth, dep_ints]
theorem sh_nums (s : List Int) : SeqAt.shaped (pNums s) = true := by simp [SeqAt.shaped, lay_nums, dep_nums]
theorem sh_numss (l : List (List Int)) : SeqAt.shaped (.list (l.map pNums)) = true := by
  have := dep_numss l
  simp only [SeqAt.shaped, PyData.canLay0, lay_numss, PyData.depth, Bool.true_and, decide_eq_true_eq]
  exact decide_eq_true (Nat.le_trans (Nat.succ_le_succ this) (show 2 ≤ 64 by omega))
theorem sh_numssT (l : List (List Int)) : SeqAt.shaped (.tuple (l.map pNums)) = true := by
  have := dep_numss l
  simp only [SeqAt.shaped, PyData.canLay0, lay_numss, PyData.depth, Bool.true_and, decide_eq_true_eq]
  exact decide_eq_true (Nat.le_trans (Nat.succ_le_succ this) (show 2 ≤ 64 by omega))
section
variable {ws : List Ce}
theorem py_numsW (s : List Int) : toPy ws (dNums s) = some (pNums s) := (show toPy ws (dNums s) = toPy0 (dNums s) from rfl).trans (py_nums s)
theorem py_lstW (l : List (List Int)) : toPy ws (.lst (l.map dNums)) = some (.list (l.map pNums)) := by simp only [toPy, toPy0, py_numss, Option.map_some]
theorem py_tupW (l : List (List Int)) : toPy ws (.tup (l.map dNums)) = some (.tuple (l.map pNums)) := by simp only [toPy, toPy0, py_numss, Option.map_some]
theorem py_celW {l : List (List Int)} {p : Nat} (h : ws[p]? = some (.lst (l.map dNums))) : toPy ws (.cell p) = some (.list (l.map pNums)) := by simp only [toPy, h, py_numss, Option.map_some]
theorem ne_ints (S T : List Int) : fNeD ws (.lst (S.map .int)) (.lst (T.map .int)) = some (.bl (!decide (S = T))) := by
  simp only [fNeD, toPy, toPy0, py_ints, Option.map_some, Option.bind_some, sh_ints, Bool.and_self, if_true, PyData.eqv, eqv_ints]
theorem ne_nil_ints (S : List Int) : fNeD ws (.lst (S.map .int)) (.lst []) = some (.bl (!decide (S = []))) := ne_ints S []
theorem ne_nums (s t : List Int) : fNeD ws (dNums s) (dNums t) = some (.bl (!decide (s = t))) := by
  simp only [fNeD, py_numsW, Option.bind_some, sh_nums, Bool.and_self, if_true, eqv_nums]
theorem ne_numss (k l : List (List Int)) : fNeD ws (.lst (k.map dNums)) (.lst (l.map dNums)) = some (.bl (!decide (k = l))) := by
  simp only [fNeD, toPy, toPy0, py_numss, Option.map_some, Option.bind_some, sh_numss, Bool.and_self, if_true, PyData.eqv, eqv_numss]
theorem ne_nil_numss (k : List (List Int)) : fNeD ws (.lst (k.map dNums)) (.lst []) = some (.bl (!decide (k = []))) := ne_numss k []
theorem eq_numssT (k l : List (List Int)) : fEqD ws (.tup (k.map dNums)) (.tup (l.map dNums)) = some (.bl (decide (k = l))) := by
  simp only [fEqD, toPy, toPy0, py_numss, Option.map_some, Option.bind_some, sh_numssT, Bool.and_self, if_true, PyData.eqv, eqv_numss]
theorem in_numss (s : List Int) (l : List (List Int)) : fInD ws (dNums s) (.lst (l.map dNums)) = some (.bl (decide (s ∈ l))) := by
  simp only [fInD, py_numsW, py_lstW, py_tupW, Option.bind_some, sh_nums, sh_numss, Bool.and_self, if_true, any_numss]
theorem in_numssC (s : List Int) (l : List (List Int)) {p : Nat} (h : ws[p]? = some (.lst (l.map dNums))) : fInD ws (dNums s) (.cell p) = some (.bl (decide (s ∈ l))) := by
  simp only [fInD, py_numsW, py_celW h, Option.bind_some, sh_nums, sh_numss, Bool.and_self, if_true, any_numss]
theorem notIn_numssC (s : List Int) (l : List (List Int)) {p : Nat} (h : ws[p]? = some (.lst (l.map dNums))) : fNotInD ws (dNums s) (.cell p) = some (.bl (!decide (s ∈ l))) := by
  simp only [fNotInD, py_numsW, py_celW h, Option.bind_some, sh_nums, sh_numss, Bool.and_self, if_true, any_numss]
theorem inT_numss (neg : Bool) (s : List Int) (l : List (List Int)) : fInT neg ws (dNums s) (.tup (l.map dNums)) = some (.bl (if neg then !decide (s ∈ l) else decide (s ∈ l))) := by
  simp only [fInT, py_numsW, py_lstW, py_tupW, Option.bind_some, sh_nums, sh_numssT, Bool.and_self, if_true, any_numss]
end
end RL
set_option Elab.async false
set_option linter.all false
set_option maxRecDepth 100000
set_option maxHeartbeats 1000000
/-! RL20: an own exception class whose own making begins with super().__init__(..). -/
namespace RL
open PySem PySem.Spec PyProof.Rows L2
abbrev supEnv (qual : Str) (scope : Scope) (L f : Addr) (cd : Value) (cc : Addr) : Env := PySem.W.ksEnv qual scope L f cd cc
/-- the context of such a def's body -/
def supCx (P : Program) (w : World) (K : PySem.W.Frag) (mg : Str → Option Value) (base : Heap) (N : List Str) (qual : Str) (scope : Scope) (f : Addr) (cd : Value) (cc : Addr) (A : Around) (outer : List Env) (s : Shared) (H : Hp) : Cx where
  prog := P
  w := w
  K := K
  mg := mg
  base := base
  A := A.deeper (supEnv qual scope s.heap.objs.size f cd cc)
  N := N
  s_0 := s
  H_0 := H
  env := supEnv qual scope s.heap.objs.size f cd cc
  outer := outer
  stack := supEnv qual scope s.heap.objs.size f cd cc :: outer
  ex := []
  fn := fun _ => false
  calm := true
  pn := []
  xe := fun _ _ => False
theorem zip_lookup {α : Type} : ∀ {ps : List Str} {us : List α} {i : Nat} {y : Str} {u : α}, ps.Nodup → ps[i]? = some y → us[i]? = some u → (ps.zip us).reverse.lookup y = some u
  | [], _, i, _, _, _, h, _ => by simp at h
  | _ :: _, [], i, _, _, _, _, h => by simp at h
  | p :: ps, a :: us, 0, y, u, nd, h1, h2 => by
    simp only [List.getElem?_cons_zero, Option.some.injEq] at h1 h2
    subst h1 h2
    rw [List.zip_cons_cons, List.reverse_cons, List.lookup_append]
    have : (ps.zip us).reverse.lookup p = none := by
      rw [List.lookup_eq_none_iff]
      intro q hq
      rw [List.mem_reverse] at hq
      have := (List.of_mem_zip hq).1
      have nd := (List.nodup_cons.mp nd).1
      refine bne_iff_ne.mpr fun z => nd ?_
      rw [z]
      exact this
    rw [this]
    simp
  | p :: ps, a :: us, i + 1, y, u, nd, h1, h2 => by
    simp only [List.getElem?_cons_succ] at h1 h2
    rw [List.zip_cons_cons, List.reverse_cons, List.lookup_append, zip_lookup (List.nodup_cons.mp nd).2 h1 h2]
    rfl
/-- what the written part says of such a class at C and its making's def at f -/
structure SupF (P : Program) (K : PySem.W.Frag) (C f : Addr) (qual : Str) (params : Arguments) (body : List Stmt) (scope : Scope) (fd : FuncData) : Prop where
  ex : ∃ (oc : Value) (od : Option Addr) (kV doc pm : Value) (an : Option Addr) (cda : Addr) (ct : Value) (osl : Array (Option Value)) (cc : Addr) (cl : Value) (cld : Option Addr) (csl : Array (Option Value)) (ccl : Value) (cdd : Option Addr) (vs : Array Value) (ccs : Array (Option Value)) (file : Str) (tf : Tok),
    fd = PySem.W.ksFn "__init__" qual params body scope .none kV doc pm an (.ref cda) ct cc ∧ K.lookup f = some ⟨oc, od, .func fd, osl⟩ ∧ PySem.W.codeIn K (.ref cda) qual = true ∧ K.lookup cc = some ⟨cl, cld, .cell (some (.ref C)), csl⟩ ∧
      K.lookup cda = some ⟨ccl, cdd, .fields vs, ccs⟩ ∧ vs[2]? = some (.str file tf) ∧ ((P.main.file : Str) == file) = true
  ox : OexC K C
  sup : PySem.W.ks_superIn K C C "__init__" = some (some (.builtin "ValueError.__init__"))
  sub : PySem.W.subIn K (.ref C) (.type "ValueError") = some true
  mro : PySem.W.mroIn K C (.ref C) = some true
  opq : PySem.W.nsIn K cStatics "thirdparty.any" = some none
  top : (P.main.scope.names.lookup ("super" : Str)).isSome = false
/-- its scope: parameters alone, super and the class -/
structure SupS (ps : List Str) (sc : Scope) : Prop where
  kind : sc.kind = .function
  co : sc.isCoroutine = false
  gen : sc.isGenerator = false
  nd : ps.Nodup
  par : ∀ x ∈ ps, sc.names.lookup x = some .local
  own : ∀ y ∈ sc.names, y.2 ≠ .cell ∧ (y.2 = .free → y.1 = "__class__")
  sup : sc.names.lookup ("super" : Str) = some .globalImplicit
  cls : sc.names.lookup ("__class__" : Str) = some .free
section
variable {P : Program} {w : World} {K : PySem.W.Frag} {mg : Str → Option Value} {base : Heap} {ps : List Str} {qual : Str} {scope : Scope} {f cc C : Addr} {cd : Value} {A : Around} {outer : List Env} {s : Shared} {H : Hp} {us : List Value} {vs : List V}
theorem sup_start (S : SupS ps scope) (hd : A.handled = none) (e0 : Env0 P w K mg base A outer s H) {cl : Value} {cld : Option Addr} {csl : Array (Option Value)} (hc : K.lookup cc = some ⟨cl, cld, .cell (some (.ref C)), csl⟩) (hl : vs.length = ps.length) (r : Vals vs us) {h1 : Heap} {tk : Nat}
    (hns : h1.Ns s.heap.objs.size fun x => (ps.zip us).reverse.lookup x) (kp : ∀ b o, s.heap.get? b = some o → h1.get? b = some o) : Inv (supCx P w K mg base ps qual scope f cd cc A outer s H) [] (vs.map some) H { s with heap := h1, toks := tk } := by
  have noA : ∀ b : Addr, b ∉ (supCx P w K mg base ps qual scope f cd cc A outer s H).ex := fun b z => absurd (show b ∈ ([] : List Addr) from z) (by simp)
  have cell : ∀ {y c}, ([("__class__", cc)] : List (Str × Addr)).lookup y = some c → y = "__class__" ∧ c = cc := fun {y c} e => by
    rw [List.lookup_cons] at e
    split at e
    · rename_i q
      exact ⟨beq_iff_eq.mp q, (Option.some.inj e).symm⟩
    · cases e
  have kbase := e0.mod.kin _ _ hc
  obtain ⟨k1, k2⟩ := e0.bs _ _ kbase
  refine ⟨⟨e0.mod, S.kind, rfl, rfl, Nat.le_refl _, fun y z c e1 e2 => (cell e1).1.trans (cell e2).1.symm, fun y hy => ?_, fun y c z _ => ?_, fun _ => hd, Around.frames_deeper e0.frames, .inr ⟨rfl, rfl⟩, fun b z => absurd z (noA b), e0.bs, e0.bsz, fun b _ _ => noA b,
      fun b z => absurd z (noA b), e0.funs, e0.frf⟩,
    rfl, e0.bare, Un.kept kp, ⟨_, hns, fun i y v e1 e2 e3 => ?_⟩, fun y c e => ?_, e0.hok.fresh (Nat.le_refl _), fun y c e => ?_, fun q hq => absurd (show q ∈ ([] : List (Addr × Obj)) ++ [] from hq) (by simp), e0.hok.kept kp, by rw [List.length_map]; exact hl⟩
  · have hy : scope.names.lookup y = some .cell ∨ scope.names.lookup y = some .free := hy
    rcases hy with hy | hy
    · exact absurd rfl (S.own _ (PySem.mem_of_lookup hy)).1
    · have := (S.own _ (PySem.mem_of_lookup hy)).2 rfl
      exact ⟨cc, by rw [show y = "__class__" from this]; rfl⟩
  · have z : false = true := z
    cases z
  · have ha : vs[i]? = some v := by
      rw [List.getElem?_map] at e2
      cases e : vs[i]? with
      | none => rw [e] at e2; cases e2
      | some a => rw [e] at e2; cases e2; rfl
    obtain ⟨u, hu, rv⟩ := r.get ha
    have hp : ps[i]? = some y := e1
    exact ⟨u, rv, .inl ⟨S.par y (List.mem_of_getElem? hp), zip_lookup S.nd hp hu⟩⟩
  · obtain ⟨_, e⟩ := cell e
    subst e
    exact ⟨_, _, kp _ _ k1, rfl⟩
  · obtain ⟨_, e⟩ := cell e
    subst e
    exact k2
theorem sup_args {X : Cx} {pins : List (Addr × Obj)} {σ : L2.St} {u x : Addr} {i : String} {es : List Expr} {e : Expr} {pos : Pos} {ta : TA} {Q : Value → Shared → Prop} {E : Value → Shared → Prop} {H : Hp} {s : Shared} (ha : PA X (e :: es) ta) (I : Inv X ((u, PySem.W.kxs_mw i x) :: pins) σ H s)
    (hE : ∀ er s', X.xe er s' → E er s')
    (h : ta σ H fun vs H1 => ∀ s1 us, Vals vs us → Inv X ((u, PySem.W.kxs_mw i x) :: pins) σ H1 s1 → wpAny (model X.prog X.w) X.A (call (.ref u) us) Q E s1)
    (he : starEach (e :: es) X.env = (false, eval e X.env) :: starEach es X.env := by rfl) (hpl : (backTo pos (starEach es X.env)).any (·.1) = false := by rfl) :
    wpAny (model X.prog X.w) X.A (callWith pos (.ref u) [] (backTo pos (starEach (e :: es) X.env)) []) Q E s := by
  have h2 := ha.run pos _ s σ H _ I h
  rw [he] at h2 ⊢
  refine PySem.W.kxs_callWith (i := i) (x := x) (by show (false || (backTo pos (starEach es X.env)).any (·.1)) = false; rw [hpl]; rfl) (PySem.Calls.evalArgs_plain (wpAny_mono h2 (fun us s1 z => ?_) hE))
  obtain ⟨vs, H1, I1, r1, q⟩ := z
  exact ⟨(I1.pin _ (List.mem_append_right _ List.mem_cons_self)).1, q s1 us r1 I1⟩
/-- super().__init__(..) called -/
theorem sup_call {X : Cx} {pins : List (Addr × Obj)} {σ : L2.St} {H : Hp} {s : Shared} {u a C : Addr} {us : List Value} {Q : Value → Shared → Prop} {E : Value → Shared → Prop} (T : OexC X.K C) (I : Inv X ((u, PySem.W.kxs_mw "ValueError.__init__" a) :: pins) σ H s) (e : H a = some (exo a C none)) (hl : us.length ≤ sizeLine)
    (h : ∀ s', Inv X pins σ H s' → Q .none s') : wpAny (model X.prog X.w) X.A (call (.ref u) us) Q E s := by
  obtain ⟨nm, q, N, bs, bm, sn, sub, ab, col, dd, k0, k1, k2, k3, k5, hC, hbm⟩ := T.cls
  have hu := (I.pin _ (List.mem_append_right _ List.mem_cons_self)).1
  obtain ⟨t1, ho⟩ := exo_at I.hok e
  have kin := I.kIn
  have I0 : Inv X pins σ H s := I.pins_of fun p hp => I.pin p (List.mem_append_right _ (List.mem_cons_of_mem _ hp))
  obtain ⟨hp, g, d, t, os⟩ := s
  refine wpAny_call (codeAny_of_tree ?_)
  show wpAny _ X.A.in1 (callAny (.ref u) ⟨us, []⟩) _ _ _
  simp only [callAny]
  refine wpAny_bind (wpAny_load hu ?_)
  simp only [PySem.W.kxs_mw, show (Value.type "method-wrapper" == Value.type "method" || Value.type "method-wrapper" == Value.type "builtin_function_or_method" || Value.type "method-wrapper" == Value.type "method-wrapper") = true by decide, if_true]
  refine PySem.W.KFB.if_so (by decide) ?_
  refine wpAny_bind (PySem.W.check_bound_init PySem.F.excBase_ValueError.toExcCallFacts (kin _ _ hC) ho rfl ?_)
  refine wpAny_bind (wpAny_pure (wpAny_pure ?_))
  refine ⟨plainId_quiet PySem.F.excBase_ValueError.init.plain _, codeAny_builtin PySem.F.excBase_ValueError.initEntry ?_⟩
  refine PySem.W.exc_init_tree (cls := .ref C) (t0 := t1) (dv := none) (c2 := .none) (c3 := .none) (b4 := .bool false) ho hl fun h' k hx _ => ?_
  have J := I0.write (t' := t) (x := a) (e := a) (o := exo a C none) (by rw [e]; exact True.intro) (.inl rfl) k ⟨_, hx⟩ (exo_ok hx)
  have eu : upd H a (exo a C none) = H := by
    funext b
    by_cases hb : b = a
    · rw [hb, upd_same, e]
    · rw [upd_ne hb]
  rw [eu] at J
  exact h _ J
/-- how the call of super().__init__ is evaluated -/
def EvSup (qual : Str) (scope : Scope) (f : Addr) (p0 p1 ap cp : Pos) (es : List Expr) : Prop := ∀ (cda cc L : Addr), ∃ pl : Sem Bool, eval (.Call (.Attribute (.Call (.Name "super" p0) [] [] p1) "__init__" ap) es [] cp) (supEnv qual scope L f (.ref cda) cc) = (do
      let ov ← attributeBase (.Call (.Name "super" p0) [] [] p1) "__init__" (supEnv qual scope L f (.ref cda) cc) (eval (.Call (.Name "super" p0) [] [] p1) (supEnv qual scope L f (.ref cda) cc))
      standAt ap.atName
      let (g, first) ← holding [ov] (getMethod ov "__init__" pl)
      callWith cp g first (backTo cp (starEach es (supEnv qual scope L f (.ref cda) cc))) [])
/-- THE RULE: the def whose body is super().__init__(..), then what rest tells -/
theorem sup_fn {CX : CXT} {k : Nat} {params : Arguments} {rest : List Stmt} {p0 p1 ap cp pE : Pos} {e : Expr} {es : List Expr} {x0 : Str} {ps' : List Str} {fd : FuncData} {body : List Stmt} {sp : Sp} (S : SupS (x0 :: ps') scope)
    (hbo : body = .Expr (.Call (.Attribute (.Call (.Name "super" p0) [] [] p1) "__init__" ap) (e :: es) [] cp) pE :: rest) (F : SupF P K C f qual params body scope fd) (hpar : ∃ ar, (params.posonlyargs ++ params.args).head? = some ar ∧ ar.arg = x0) (hmg : mg "super" = none)
    (len : ∀ vs H Q E, sp vs H Q E → vs.length = (x0 :: ps').length)
    (hsp : ∀ (cda cc : Addr) (A : Around) (outer : List Env) (s : Shared) (H : Hp) (vs : List V) (Q : VK) (E : XK), Room k (A.deeper (supEnv qual scope s.heap.objs.size f (.ref cda) cc)) → sp vs H Q E →
      ∃ a ta t, vs[0]? = some (.ref a) ∧ H a = some (exo a C none) ∧ PA (supCx P w K mg base (x0 :: ps') qual scope f (.ref cda) cc A outer s H) (e :: es) ta ∧ PSs (supCx P w K mg base (x0 :: ps') qual scope f (.ref cda) cc A outer s H) rest t ∧
        ∀ Qa : List V → Hp → Prop, (∀ us H1, us.length ≤ 1000 → H1 a = some (exo a C none) → t { nx := fun _ H' => Q .non H', rt := Q } (vs.map some) H1 → Qa us H1) → ta (vs.map some) H Qa)
    (he : ∀ (cda cc L : Addr), starEach (e :: es) (supEnv qual scope L f (.ref cda) cc) = (false, eval e (supEnv qual scope L f (.ref cda) cc)) :: starEach es (supEnv qual scope L f (.ref cda) cc) := by intros; rfl)
    (hev : EvSup qual scope f p0 p1 ap cp (e :: es) := by exact fun _ _ _ => ⟨_, rfl⟩)
    (hpl : ∀ (cda cc L : Addr), (backTo cp (starEach es (supEnv qual scope L f (.ref cda) cc))).any (·.1) = false := by intros; rfl) :
    FnOk P w K mg base CX (k + 1) f fd (x0 :: ps') sp := by
  obtain ⟨oc, od, kV, doc, pm, an, cda, ct, osl, cc, cl, cld, csl, ccl, cdd, cvs, ccs, file, tf, rfl, lk, hcd, hcc, hcode, hv2, hfile⟩ := F.ex
  refine ⟨len, fun A outer s H args us vs Q E hr e0 hb r hq => ?_⟩
  have hl := len _ _ _ _ hq
  have KX : K.In s.heap := e0.mod.kin.keeps fun b o z => (e0.bs b o z).1
  have lim : s.heap.NoLimit := e0.mod.nolimit.keeps fun b o z => (e0.bs b o z).1
  refine ks_codeAny_call_defAt (fd := PySem.W.ksFn "__init__" qual params body scope .none kV doc pm an (.ref cda) ct cc) (body := body) (binds := (x0 :: ps').zip us) hr.depth (KX _ _ lk) rfl lim (PySem.W.codeRec_of KX hcd) rfl hb (fun y hy => (S.own y hy).1)
    (fun y hy => S.par _ (List.of_mem_zip hy).1) (fun h1 hns kp => ?_) S.co S.gen S.kind
  obtain ⟨a, ta, t, hv0, ha0, hpa, hps, hta⟩ := hsp cda cc A outer s H vs Q E (hr.deeper _) hq
  have I := sup_start (qual := qual) (f := f) (cd := .ref cda) (tk := s.toks + ((x0 :: ps').zip us).length) S hr.hd e0 hcc hl r hns kp
  obtain ⟨nm, q, N, bs, bm, sn, sub, ab, col, dd, k0, k1, k2, k3, k5, hC, hbm⟩ := F.ox.cls
  have hcl : PySem.W.clsIn K C = some { name := nm, bases := bs, mro := .ref C :: bm, ns := N, qualname := q, hasDict := true, slotNames := sn, subclasses := sub, abstract := ab, collection := col, hasDel := false } := by unfold PySem.W.clsIn; rw [hC] <;> rfl
  have K1 : K.In h1 := KX.keeps kp
  obtain ⟨t1, hoa⟩ := exo_at I.hok ha0
  have n1 : h1.Ns mainGlobals mg := (e0.mod.glob.keeps fun b o z => (e0.bs b o z).1).keeps kp
  obtain ⟨mb, n2, n3⟩ := e0.mod.blt
  have n2 : h1.Ns builtinsNs mb := (n2.keeps fun b o z => (e0.bs b o z).1).keeps kp
  subst hbo
  obtain ⟨ar, hp1, hp2⟩ := hpar
  subst hp2
  obtain ⟨u0, hu0, rv0⟩ := r.get hv0
  obtain rfl : u0 = Value.ref a := rv0
  have hslf : ((ar.arg :: ps').zip us).reverse.lookup ar.arg = some (.ref a) := zip_lookup (i := 0) S.nd rfl hu0
  have hCo := K1 _ _ hC
  have hi : interactive (supEnv qual scope s.heap.objs.size f (.ref cda) cc) = false := by
    unfold interactive
    simp [S.kind]
  obtain ⟨pl, hev'⟩ := hev cda cc s.heap.objs.size
  refine ks_wpAt_execs_cons (ks_wpAt_Expr_any (ks_wpAt_MethodCall ?_ hev') hi)
  · refine ks_wpAt_super_base (env := supEnv qual scope s.heap.objs.size f (.ref cda) cc) S.sup S.cls rfl rfl (kp _ _ (KX _ _ lk)) rfl hp1 rfl (K1 _ _ hcode) rfl hv2 hfile F.top ?_
    refine PySem.W.ks_loadName_global S.kind S.sup (PySem.Calls.loadGlobal_builtin (env := supEnv qual scope s.heap.objs.size f (.ref cda) cc) n1 hmg n2 ((n3 _ (by decide +kernel)).trans (show bootBuiltins "super" = some (.type "super") by kernel_rfl)) ⟨rfl, ?_⟩)
    refine wpAny_loadName_free S.kind S.cls rfl ⟨_, K1 _ _ hcc, rfl⟩ ?_
    refine wpAny_loadName_local S.kind (S.par _ List.mem_cons_self) hns hslf ?_
    refine ks_wpAny_isType_cls hCo rfl ⟨rfl, ?_⟩
    refine ks_wpAny_call_super hCo rfl hoa rfl (fun c z => nomatch z) (PySem.W.looks_mroIn K1 F.mro) (fun h2 eo k2 => ?_)
    have I2 := I.kept (h' := h2) (t' := s.toks + ((ar.arg :: ps').zip us).length) k2
    have K2 : K.In h2 := K1.keeps k2
    have J2 : PySem.W.InstAt h2 a _ C none := ⟨k2 _ _ hoa, rfl, rfl, trivial⟩
    have hsup : PySem.W.alongIn K "__init__" (((Value.ref C :: bm).dropWhile (· != .ref C)).drop 1) = some (some (.builtin "ValueError.__init__")) := by
      have z := F.sup
      unfold PySem.W.ks_superIn at z
      rw [hcl] at z
      exact z
    refine PySem.W.kxs_getMethod PySem.W.kxs_ValueError eo (PySem.W.looks_opaque K2 F.opq) (l₀ := .ref C :: bm) (fun A Q E s k q => wpAny_bind ((PySem.W.looks_clsIn K2 hcl) A _ E s k (wpAny_pure q))) rfl K2 hsup (J2.type.andThen (PySem.W.looks_subIn K2 F.sub)) (PySem.W.ks_ne K2 J2 hcl) rfl ?_
    have I3 : Inv (supCx P w K mg base (ar.arg :: ps') qual scope f (.ref cda) cc A outer s H) [(h2.objs.size, PySem.W.kxs_mw "ValueError.__init__" a)] (vs.map some) H ⟨h2.push (PySem.W.kxs_mw "ValueError.__init__" a), s.gens, s.drawn, s.toks + ((ar.arg :: ps').zip us).length + 1, s.os⟩ :=
      (I2.kept (h' := h2.push (PySem.W.kxs_mw "ValueError.__init__" a)) (t' := s.toks + ((ar.arg :: ps').zip us).length + 1) fun b u z => Heap.get?_push_of_some _ z).pins_of fun p hp => by
        rw [List.mem_singleton] at hp
        subst hp
        exact ⟨Heap.get?_push_at rfl rfl, I2.hok.fresh (Nat.le_refl _), Nat.ne_of_gt I2.lt, I2.nofs (Nat.le_refl _), fun v z => nomatch z⟩
    refine sup_args hpa I3 (fun er s' z => z.elim) (hta _ fun as H1 hlen hex ht s1 ws rw' I4 => ?_) (he ..) (hpl ..)
    refine sup_call F.ox I4 hex (by rw [← rw'.length, sizeLine_eq]; omega) fun s2 I5 => ?_
    refine wpAt_of_wpAny (wpAny_mono (hps.run [] s2 _ H1 _ I5 ht) (fun fl s3 z => ?_) fun _ _ z => z.elim)
    have fin : ∀ {σ' : L2.St} {H' : Hp} {v : V} {u : Value}, Inv (supCx P w K mg base (ar.arg :: ps') qual scope f (.ref cda) cc A outer s H) [] σ' H' s3 → L2.RelV v u → Q v H' → CE outer P w H s Q u s3 :=
      fun {σ' H' v u} J rv q => ⟨v, H', J.os, J.bare, J.base, J.hok, rv, q⟩
    cases fl with
    | ret u =>
      obtain ⟨v, σ', H', J, rv, q⟩ := z
      exact fin J rv q
    | next =>
      obtain ⟨σ', H', J, q⟩ := z
      exact fin (v := V.non) (u := Value.none) J rfl q
    | brk =>
      obtain ⟨_, _, _, q⟩ := z
      exact False.elim q
    | cont =>
      obtain ⟨_, _, _, q⟩ := z
      exact False.elim q
end
end RL
set_option Elab.async false
set_option linter.all false
set_option maxRecDepth 100000
set_option maxHeartbeats 2000000
/-! RL21: try: .. except X as n: caught = n, the exception known behind it. -/
namespace RL
open PySem PySem.Spec PyProof.Rows L2
section
variable {X : Cx} {pins : List (Addr × Obj)} {σ : L2.St} {H : Hp} {s : Shared}
theorem exH_ok {P : Program} {w : World} {H : Hp} {h : Heap} {a : Addr} {cls : Value} {dd : Option Addr} {oe : Obj} {vs : Array Value} (e : h.get? a = some oe) (z : Zc cls dd oe) (d : oe.data = .fields vs) : ObjOk P w H h a (ExH cls dd a) :=
  ⟨⟨oe, vs, e, z, d⟩, ⟨_, e⟩, fun h1 h2 ⟨o, us, f1, f2, f3⟩ k => ⟨o, us, k o f1, f2, f3⟩⟩
/-- a pinned exception of our own is tracked from now on -/
theorem inv_track {a : Addr} {oe : Obj} {cls : Value} {dd : Option Addr} {vs : Array Value} (I : Inv X ((a, oe) :: pins) σ H s) (hz : Zc cls dd oe) (hd : oe.data = .fields vs) (h0 : X.s_0.heap.get? a = none) (hp : ∀ p ∈ X.pn ++ pins, p.1 ≠ a) : Inv X pins σ (upd H a (ExH cls dd a)) s := by
  obtain ⟨p1, p2, p3, p4, p5⟩ := I.pin (a, oe) (List.mem_append_right _ List.mem_cons_self)
  have hn : H a = none := p2
  have ha : s.heap.get? a = some oe := p1
  have nc : ∀ x c, X.env.cells.lookup x = some c → c ≠ a := fun x c e z => by
    obtain ⟨v, o, f1, f2⟩ := I.cell x c e
    rw [z, ha] at f1
    cases f1
    rw [hd] at f2
    cases f2
  refine ⟨I.ok, I.os, I.bare, ⟨I.base.keep, I.base.slot, fun b o e n hx => ?_, I.base.there, fun b xs e => ?_, fun b o v e => ?_, fun b ps e => ?_⟩, I.loc, I.cell, ?_, fun x c e => ?_, fun p q => ?_, I.hok.laidN (fun b u e => e) hn (exH_ok ha hz hd), I.len⟩
  · rw [upd_ne (fun z => by rw [z, h0] at e; cases e)]
    exact I.base.free b o e n hx
  · have q := I.base.tups b xs e
    rw [upd_ne (fun z => by rw [z, hn] at q; cases q)]
    exact q
  · have q := I.base.frzs b o v e
    rw [upd_ne (fun z => by rw [z, hn] at q; cases q)]
    exact q
  · obtain ⟨more, q⟩ := I.base.tbls b ps e
    exact ⟨more, by rw [upd_ne (fun z => by rw [z, hn] at q; cases q)]; exact q⟩
  · rw [upd_ne (Ne.symm p3)]
    exact I.free
  · rw [upd_ne (nc x c e)]
    exact I.freeC x c e
  · obtain ⟨q1, q2, q3⟩ := I.pin p ((List.mem_append.mp q).elim (fun z => List.mem_append_left _ z) fun z => List.mem_append_right _ (List.mem_cons_of_mem _ z))
    exact ⟨q1, by rw [upd_ne (hp p q)]; exact q2, q3⟩
/-- what the clause wishes: n's slot i, the kept one's slot j -/
def wKeep (K : PySem.W.Frag) (c : Value) (i j : Nat) (D : Ends) (Wout : WX) : WX := fun cls d σ H =>
  ∃ b, PySem.W.exmOne K cls c = some b ∧ (b = true → ∀ a, H a = none → D.nx (((σ.set i (some (.ref a))).set j (some (.ref a))).set i none) (upd H a (ExH cls d a))) ∧ (b = false → Wout cls d σ H)
variable {x n m : Str} {c : Value} {i j : Nat} {body : List Stmt} {np p1 p2 p3 pos pos' : Pos} {tb : WX → TS} {Wout : WX}
theorem ps_try_keep (hs : X.stack = X.env :: X.outer) (hf : X.env.frame = some X.env.locals) (hex : X.ex = []) (hN : X.N.Nodup) (hi : X.N[i]? = some n) (hj : X.N[j]? = some m) (hij : i ≠ j) (hln : X.env.kindOf n = some .local) (hlm : X.env.kindOf m = some .local) (hc : Names X x c) (tk : Takes X Wout)
    (hb : ∀ (W : WX) (pn : List (Addr × Obj)) (xe : Value → Shared → Prop), Takes (X.tr pn xe) W → PassesOwn (model X.prog X.w) X.A X.env xe → PSs (X.tr pn xe) body (tb W))
    (hsw : swapsWith (.Name n p2) (some (.Name m p1)) p3.line X.env = pure false := by rfl) (hdn : (n == ("__debug__" : Str)) = false := by decide) (hcn : (n == ("__classdict__" : Str)) = false := by decide) :
    PS X (.Try body [.ExceptHandler (some (.Name x np)) (some n) [.Assign [.Name m p1] (.Name n p2) p3] pos'] [] [] pos) (fun D σ H => tb (wKeep X.K c i j D Wout) D σ H) := by
  refine ⟨fun pins s σ H D I h => ?_⟩
  have ok := I.ok
  have hfr : X.A.frames = some (X.env :: X.outer) := by rw [ok.frames, hs]
  have hloc : Loc X.env.scope n := .inl hln
  refine wpAny_Try_except ?_
  refine wpAny_mono ((hb (wKeep X.K c i j D Wout) (X.pn ++ pins) (fun e s₁ => wpAny (model X.prog X.w) X.A (noteFrame e X.env) (fun _ s₂ => wpAny (model X.prog X.w) X.A (setFlight e none) (fun _ s₃ =>
    wpAny (model X.prog X.w) X.A (handleBy e X.env [.ExceptHandler (some (.Name x np)) (some n) [.Assign [.Name m p1] (.Name n p2) p3] pos']) (SP X pins D) X.xe s₃) X.xe s₂) X.xe s₁) (fun u s' xx => ?_) PassesOwn.looking).run [] s σ H D (I.toTry _) h) (fun f s1 hsp => ?_) (fun e s1 he => he)
  · obtain ⟨a, B, sI, pins', σ', H', cls, d, rfl, J', nb, up, sky, na, os, ag, b, hb1, hyes, hno⟩ := xx
    have J : Inv X pins σ' H' sI := J'.ofTry ok
    have sky' : Sky B (X.env :: X.outer) a (Zc cls d) X.env.locals s'.heap := by rw [← hs]; exact sky
    show wpAny _ X.A (noteFrame (.ref a) X.env) _ _ _
    refine Sky.land Zc.steady hfr hf sky' fun h3 fl3 up3 => ?_
    have J3 : Inv X pins σ' H' { s' with heap := h3 } := J.landed nb fl3.1 (up.trans up3) os ag
    obtain ⟨oe3, vs3, he3, hz3, hd3⟩ := fl3.there
    have notFr : ∀ {h : Heap} {o : Obj} {vs : Array Value}, h.FunFrames B (X.env :: X.outer) → h.get? a = some o → o.data = .fields vs → a ∉ frs (X.env :: X.outer) := fun {h o vs} ff e dd hm => by
      obtain ⟨_, o', e', hnf⟩ := ff.mem hm
      rw [e] at e'; cases e'
      exact hnf _ dd
    have nfr := notFr fl3.2.2.1 he3 hd3
    have nL : a ≠ X.env.locals := fun z => nfr (List.mem_filterMap.mpr ⟨X.env, List.mem_cons_self, by rw [hf, z]⟩)
    have nF : a ∉ X.fs := fun hm => by
      obtain ⟨e, he, q⟩ := List.mem_filterMap.mp hm
      exact nfr (List.mem_filterMap.mpr ⟨e, List.mem_cons_of_mem _ he, q⟩)
    have gB : B.get? a = none := fl3.2.1
    have hB : ∀ {b : Addr} {o : Obj}, sI.heap.get? b = some o → b ∉ frs (X.env :: X.outer) → b ≠ a := fun {b o} e nf z => by
      have q := nb b o e (by rw [hs]; exact nf)
      rw [z, gB] at q
      cases q
    have h0 : X.s_0.heap.get? a = none := by
      cases q : X.s_0.heap.get? a with
      | none => rfl
      | some o =>
        obtain ⟨o', q2⟩ := J.base.there a o q (by rw [hex]; simp)
        exact absurd rfl (hB q2 nfr)
    have hpa : ∀ p ∈ X.pn ++ pins, p.1 ≠ a := fun p hp => by
      obtain ⟨q1, _, q3, q4, _⟩ := J.pin p hp
      refine hB q1 fun hm => ?_
      obtain ⟨e, he, q⟩ := List.mem_filterMap.mp hm
      rcases List.mem_cons.mp he with z | z
      · subst z
        rw [hf] at q
        exact q3 (Option.some.inj q).symm
      · exact q4 (List.mem_filterMap.mpr ⟨e, z, q⟩)
    have S3 := J3.suite he3 hd3 na nL nF
    refine wpAny_handleBy_cons (codeAny_handlers_test ?_) (by intro q; cases q)
    have LT : PySem.W.Looks (model X.prog X.w) h3 (typeOf (.ref a)) cls := fun A Q E s k q => wpAny_typeOf_ref (k _ _ he3) (by rw [hz3.1]; exact q)
    have LM := PySem.W.exm_one (M := model X.prog X.w) (J3.kIn) LT hb1
    have test : ∀ {Q : Value → Shared → Prop} {E : Value → Shared → Prop}, Q c { s' with heap := h3 } → wpAny (model X.prog X.w) (X.A.mark (some (.ref a))) (eval (.Name x np) X.env) Q E { s' with heap := h3 } := fun {Q E} q => by
      obtain ⟨hg, hdbg, hm | ⟨hm, hv, hnn⟩⟩ := hc
      · exact ld_glob (X := X.suite a ((a, oe3) :: (X.pn ++ pins))) S3 hg hm q hdbg
      · exact ld_blt (X := X.suite a ((a, oe3) :: (X.pn ++ pins))) S3 hg hm hv q hnn hdbg
    refine test (LM.here ?_)
    cases b with
    | true =>
      refine codeAny_handlers_suite_as ?_
      refine HandSPX.lands_againZ fl3 fun h4 fl4 up4 => ?_
      have J4 : Inv X pins σ' H' { s' with heap := h4 } := J.landed nb fl4.1 ((up.trans up3).trans up4) os ag
      obtain ⟨oe4, vs4, he4, hz4, hd4⟩ := fl4.there
      have S4 := J4.suite he4 hd4 na nL nF
      refine store_ok (X := X.suite a ((a, oe4) :: (X.pn ++ pins))) (v := .ref a) S4 hN hi hloc rfl (fun s5 S5 => ?_) (.inr hln)
      have hil : i < (σ'.set i (some (V.ref a))).length := by
        have q : (σ'.set i (some (V.ref a))).length = X.N.length := S5.len
        rw [q]
        exact (List.getElem?_eq_some_iff.mp hi).1
      have hst : PSs (X.suite a ((a, oe4) :: (X.pn ++ pins))) [.Assign [.Name m p1] (.Name n p2) p3] (tAsg (tVar i) (gName j)) :=
        pss_one (ps_set (i := j) hN hj (.inl hlm) (pe_var (i := i) hi (.inl hln) hdn hcn) hsw (.inr hlm))
      refine wpAny_mono (hst.run [] s5 _ H' { nx := fun σ6 H6 => σ6 = (σ'.set i (some (V.ref a))).set j (some (V.ref a)) ∧ H6 = H', rt := fun _ _ => False } S5 ⟨V.ref a, List.getElem?_set_self (by simpa using hil), rfl, rfl⟩) (fun f s6 hsp => ?_) (fun _ _ z => False.elim z)
      cases f with
      | next =>
        obtain ⟨σ6, H6, S6, e1, e2⟩ := hsp
        subst e1 e2
        have pinA := S6.pin (a, oe4) (by simp)
        have I6 : Inv X ((a, oe4) :: pins) ((σ'.set i (some (V.ref a))).set j (some (V.ref a))) H6 s6 := (S6.unsuite ok).pins_of fun p hp => by
          rcases List.mem_cons.mp hp with z | z
          · subst z
            exact pinA
          · exact (S6.unsuite ok).pin p (List.mem_append_right _ z)
        refine gone_ok I6 hN hi hln fun s7 J7 => ?_
        exact ⟨_, _, inv_track J7 hz4 hd4 h0 hpa, hyes rfl a na⟩
      | brk =>
        obtain ⟨_, _, _, q⟩ := hsp
        exact False.elim q
      | cont =>
        obtain ⟨_, _, _, q⟩ := hsp
        exact False.elim q
      | ret u =>
        obtain ⟨_, _, _, _, _, q⟩ := hsp
        exact False.elim q
    | false =>
      show wpAny _ X.A (handleBy (.ref a) X.env []) _ _ _
      refine wpAny_handleBy_nil ?_
      obtain ⟨k1, k2, k3, oe, vs, T, oT, ts', he, hz, hd, h1, hr⟩ := id fl3
      unfold PySem.passOn
      refine wpAny_bind (wpAny_field he hd h1 ?_)
      rw [if_neg (show ¬ ((Value.ref T == Value.none) = true) from by simp)]
      have fin : wpAny (model X.prog X.w) X.A (setFlight (.ref a) X.env.frame) (fun _ s4 => wpAny (model X.prog X.w) X.A (throw (.ref a) : Sem Flow) (SP X pins D) X.xe s4) X.xe { s' with heap := h3 } := by
        rw [hf]
        refine HandSPX.setFlight_upZ fl3 fun h4 hh4 up4 => wpAny_throw (tk _ _ ?_)
        exact ⟨a, B, sI, pins, σ', H', cls, d, rfl, J, nb, (up.trans up3).trans up4, .inr (.inr (by rw [hs]; exact hh4)), na, os, ag, hno rfl⟩
      first
        | exact wpAny_bind (wpAny_pure (wpAny_bind fin))
        | exact wpAny_bind fin
  · cases f with
    | next =>
      obtain ⟨σ', H', J', q⟩ := hsp
      exact wpAny_execs_nil ⟨σ', H', J'.ofTry ok, q⟩
    | brk =>
      obtain ⟨σ', H', J', q⟩ := hsp
      exact ⟨σ', H', J'.ofTry ok, q⟩
    | cont =>
      obtain ⟨σ', H', J', q⟩ := hsp
      exact ⟨σ', H', J'.ofTry ok, q⟩
    | ret u =>
      obtain ⟨v, σ', H', J', r, q⟩ := hsp
      exact ⟨v, σ', H', J'.ofTry ok, r, q⟩
end
end RL
set_option Elab.async false
set_option linter.all false
set_option maxRecDepth 100000
set_option maxHeartbeats 4000000
/-! RL22: isinstance and fields of a caught exception. -/
namespace RL
open PySem PySem.Spec PySem.Calls PySem.W PyProof.Rows L2
section
variable {prog : Program} {w : World} {A : Around} {E : Value → Shared → Prop} {s : Shared} {K : PySem.W.Frag} {x C : Addr} {ox : Obj} {od : Option Obj}
theorem exc_find (T : ExcC K C) : findObj K C od "__class__" = some (.bind (.builtin "getset_descriptor.__get__") (.builtin "object.__class__")) := by
  obtain ⟨cd, hc, _⟩ := any_some T.hd
  unfold findObj
  rw [hc, Option.bind_some, T.ha, Option.bind_some]
  simp [T.hn, T.ht]
theorem exc_class (T : ExcC K C) {Q : Option Value → Shared → Prop} (X : K.In s.heap) (I : InstAt s.heap x ox C od) (h : Q (some (.ref C)) { s with toks := s.toks + 1 }) : wpAny (model prog w) A (getAttr? (.ref x) "__class__") Q E s := by
  have hf := exc_find (od := od) T
  obtain ⟨hp, gs, dr, t, os⟩ := s
  have lt := I.type (M := model prog w)
  have la := looks_findIn (M := model prog w) X T.hg
  have lg := looks_findIn (M := model prog w) X T.hk
  have lf := looks_find (M := model prog w) X I hf
  have sub : Looks (model prog w) hp (isInstance (.ref x) (.type "BaseException")) true := lt.andThen (looks_subIn X T.hs)
  have n0 : (false && onTheHeap (Value.builtin "BaseException.__getattribute__")) = false := rfl
  have n1 : (onTheHeap (Value.ref C) && Value.builtin "BaseException.__getattribute__" == Value.builtin "object.__getattribute__") = false := by
    rw [show (Value.builtin "BaseException.__getattribute__" == Value.builtin "object.__getattribute__") = false by decide +kernel] <;> rfl
  unfold getAttr? getAttrBy? getAttrBy
  refine wpAny_bind (wpAny_mkText (wpAny_bind (wpAny_attempt (wpAny_holding (wpAny_bind (lt.at (wpAny_bind (la.at ?_))))))))
  show wpAny _ _ (if (onTheHeap (Value.ref C) && Value.builtin "BaseException.__getattribute__" == Value.builtin "object.__getattribute__") = true then _ else _) _ _ _
  rw [n1, if_neg Bool.false_ne_true]
  unfold getAttrByItsOwn hookBefore
  refine wpAny_bind ?_
  rw [if_pos (show onTheHeap (Value.ref C) = true from rfl)]
  refine lg.at (wpAny_bind (wpAny_attempt (wpAny_holding ?_)))
  unfold callGetattribute
  rw [n0, if_neg Bool.false_ne_true]
  unfold boundAndCalled
  rw [PySem.F.excAttr_ValueError.ga.bind (.ref x)]
  refine wpAny_bind (wpAny_pure ?_)
  show wpAny _ _ (call (.builtin "BaseException.__getattribute__") [.ref x, .str "__class__" t]) _ _ _
  refine wpAny_call (codeAny_call_builtin PySem.F.excAttr_ValueError.ga.plain PySem.F.entry_bexc_ga ?_)
  refine @check_slot (model prog w) _ _ ⟨hp, gs, dr, t + 1, os⟩ "BaseException.__getattribute__" "BaseException" "__getattribute__" (.ref x) [.str "__class__" t] [] _ (by decide +kernel) (by decide +kernel) sub (PySem.F.args_bexc_ga (.ref x) (.str "__class__" t)) ?_
  unfold Builtin.«object.__getattribute__»
  refine wpAny_bind (wpAny_of_eq (a := ((Value.ref x : Value), [Value.str "__class__" t])) (by first | rfl | (simp only [slotArgs]; rfl)) ?_)
  refine wpAny_bind (wpAny_pure (wpAny_bind (lt.at (wpAny_bind (lf.at ?_)))))
  show wpAny _ _ (holding [Value.builtin "object.__class__"] (call (.builtin "getset_descriptor.__get__") [.builtin "object.__class__", .ref x, .ref C]) >>= ret) _ _ _
  refine wpAny_bind (wpAny_holding (wpAny_call (class_get (s := ⟨hp, gs, dr, t + 1, os⟩) (ox := ox) (od := od) X I T.hm ?_)))
  refine wpAny_pure ?_
  show wpAny _ _ (handedOut (.ref C)) _ _ _
  rw [handedOut_of (v := .ref C) rfl]
  first
    | exact wpAny_pure (wpAny_pure h)
    | exact wpAny_pure h
    | exact wpAny_pure (wpAny_bind (wpAny_pure (wpAny_pure h)))
theorem exc_kit (T : ExcC K C) : KitX K (.ref x) (.ref C) (fun h => InstAt h x ox C od) where
  ty := fun _ _ _ I => I.type
  it := fun _ _ X _ => by
    obtain ⟨cdD, hcD, _⟩ := any_some T.hd
    unfold clsIn at hcD
    split at hcD
    · rename_i c' d' cd' sl' ho
      intro A' Q' E' s' k q
      unfold isType loadHead
      exact wpAny_bind (wpAny_loadPart (k _ _ (X _ _ ho)) (wpAny_pure q))
    · cases hcD
  ne := fun h tp dd its n sl X htp => by
    obtain ⟨cdD, hcD, _⟩ := any_some T.hd
    refine Bool.eq_false_iff.mpr fun q => ?_
    have e : C = tp := Value.ref.inj (beq_iff_eq.mp q)
    subst e
    unfold clsIn at hcD
    split at hcD
    · rename_i c' d' cd' sl' ho
      have z := (X _ _ ho).symm.trans htp
      cases z
    · cases hcD
  ca := fun X I k => exc_class T X I k
end
section
variable {K : PySem.W.Frag}
/-- the caught exception as it lies -/
theorem exc_inst {X : Cx} {pins : List (Addr × Obj)} {σ : L2.St} {H : Hp} {s : Shared} {a C : Addr} {dd : Option Addr} {ks : List Str} {vs : List V} (I : Inv X pins σ H s) (e : H a = some (ExH (.ref C) dd a)) (x : XdAt H dd ks vs) : ∃ ox od, InstAt s.heap a ox C od ∧ ∀ d, dd = some d → ∃ o, s.heap.get? d = some o ∧ od = some o := by
  obtain ⟨⟨oe, us, f1, f2, f3⟩, _⟩ := I.hok a _ e
  rcases x with ⟨e1, _⟩ | ⟨d, e1, e2⟩
  · subst e1
    exact ⟨oe, none, ⟨f1, f2.1, by unfold PySem.W.notCls; rw [f3] <;> rfl, by rw [f2.2]; trivial⟩, fun d z => nomatch z⟩
  · subst e1
    obtain ⟨mA, hns, hr⟩ := (show ObjOk X.prog X.w H s.heap d (.xd (ks.zip vs)) from I.hok d _ e2)
    obtain ⟨o, _, _, ho, _⟩ := id hns
    exact ⟨oe, some o, ⟨f1, f2.1, by unfold PySem.W.notCls; rw [f3] <;> rfl, by rw [f2.2]; exact ho⟩, fun d' z => by
      cases z
      exact ⟨o, ho, rfl⟩⟩
/-- isinstance(e, C), isinstance(e, (C1, C2)): by a table of the exceptions' classes -/
def rIsX (K : PySem.W.Frag) : List V → Hp → VK → Prop := fun xs H Q => ∃ (a C : Addr) (dd : Option Addr) (ks : List Str) (vs : List V) (y : V) (b : Bool), xs = [.ref a, y] ∧ H a = some (ExH (.ref C) dd a) ∧ XdAt H dd ks vs ∧ ExcC K C ∧ Q (.bl b) H ∧
  ((∃ c, y = .ref (He.ga K c) ∧ kitOne K (.ref C) (.ref (He.ga K c)) = some b) ∨ ∃ (tp : Addr) (cs : List Str), y = .ref tp ∧ H tp = some (.tup (cs.map fun c => .ref (He.ga K c))) ∧ kitAny K (.ref C) (cs.map fun c => .ref (He.ga K c)) = some b)
theorem vals_refs : ∀ {cs : List Addr} {us : List Value}, Vals (cs.map V.ref) us → us = cs.map Value.ref
  | [], us, h => by cases h; rfl
  | c :: cs, us, h => by
    cases h with
    | cons r t =>
      rw [vals_refs t]
      cases r
      rfl
theorem call_isX {X : Cx} : CallR X (.builtin "isinstance") (rIsX X.K) := by
  intro pins s σ H xs us Q I r h
  obtain ⟨a, C, dd, ks, vs, y, b, rfl, h1, h2, T, q, h3⟩ := h
  obtain ⟨u1, u2, rfl, r1, r2⟩ := vals2 r
  obtain rfl : u1 = Value.ref a := r1
  obtain ⟨ox, od, J, _⟩ := exc_inst I h1 h2
  rcases h3 with ⟨c, rfl, e⟩ | ⟨tp, cs, rfl, ht, e⟩
  · obtain rfl : u2 = Value.ref (He.ga X.K c) := r2
    exact kia_one (exc_kit T) I.kIn J e (fun z => nomatch z) fun tk => ⟨.bl b, H, I.tok tk, rfl, q⟩
  · obtain rfl : u2 = Value.ref tp := r2
    obtain ⟨_, its, rv, o, g1, g2, n, g3⟩ := (show ObjOk X.prog X.w H s.heap tp (.tup (cs.map fun c => .ref (He.ga X.K c))) from I.hok tp _ ht)
    have ei : its = cs.map fun c => Value.ref (He.ga X.K c) := by
      have : (cs.map fun c => V.ref (He.ga X.K c)) = (cs.map (He.ga X.K)).map V.ref := by rw [List.map_map]; rfl
      rw [this] at rv
      rw [vals_refs rv, List.map_map]
      rfl
    subst ei
    obtain ⟨oc, odd, oda, osl⟩ := o
    dsimp only at g2 g3
    subst g2 g3
    exact kia_tup (exc_kit T) I.kIn J g1 e (fun z => nomatch z) fun tk => ⟨.bl b, H, I.tok tk, rfl, q⟩
def clsOf : D → Option Str
  | .cls c => some c
  | _ => none
/-- isinstance(e, ..) asked of the classes cs, answered by a table -/
def fbIsX (cs : List Str) (tab : List (Str × Bool)) : Fb := fun ds ws => match ds with
  | [.exc c _ _, .cls d] => if cs = [d] then (tab.lookup c).map fun b => (.bl b, ws) else none
  | [.exc c _ _, .tup l] => if l = cs.map .cls then (tab.lookup c).map fun b => (.bl b, ws) else none
  | _ => none
def IsXT (K : PySem.W.Frag) (cs : List Str) (tab : List (Str × Bool)) : Prop := ∀ c b, tab.lookup c = some b → ExcC K (He.ga K c) ∧ kitAny K (.ref (He.ga K c)) (cs.map fun c => .ref (He.ga K c)) = some b ∧ ∀ d, cs = [d] → kitOne K (.ref (He.ga K c)) (.ref (He.ga K d)) = some b
theorem reps_cls {as : List Addr} {G : Hp} : ∀ {cs : List Str} {vs : List V}, Reps K as G (cs.map .cls) vs → vs = cs.map fun c => V.ref (He.ga K c)
  | [], vs, h => h.unnil
  | c :: cs, vs, h => by
    obtain ⟨v, r, e, h1, h2⟩ := h.uncons
    simp only [Rep] at h1
    rw [e, h1, reps_cls h2]
    rfl
theorem cd_isX {cs : List Str} {tab : List (Str × Bool)} (T : IsXT K cs tab) : CaD K (rIsX K) (fbIsX cs tab) := by
  intro ws G H as xs ds y ws' Q W rs e k
  unfold fbIsX at e
  split at e
  · rename_i c ks l d
    split at e
    · rename_i hcs
      obtain ⟨b, hb, he⟩ := Option.map_eq_some_iff.mp e
      cases he
      obtain ⟨t1, t2, t3⟩ := T c b hb
      obtain ⟨x1, r1, e1, g1, g2⟩ := rs.uncons
      obtain ⟨x2, r2, e2, g3, g4⟩ := g2.uncons
      rw [g4.unnil] at e2
      subst e1 e2
      simp only [Rep] at g1 g3
      obtain ⟨a, dd, vs, f1, f2, f3, f4, f5⟩ := g1
      subst f1 g3
      exact ⟨a, _, dd, ks, vs, _, b, rfl, W.le _ _ f2, f3.up W.le, t1, k _ G H as Rch.refl W (by simp [Rep]), .inl ⟨d, rfl, t3 d hcs⟩⟩
    · cases e
  · rename_i c ks l l2
    split at e
    · rename_i hcs
      obtain ⟨b, hb, he⟩ := Option.map_eq_some_iff.mp e
      cases he
      obtain ⟨t1, t2, t3⟩ := T c b hb
      obtain ⟨x1, r1, e1, g1, g2⟩ := rs.uncons
      obtain ⟨x2, r2, e2, g3, g4⟩ := g2.uncons
      rw [g4.unnil] at e2
      subst e1 e2
      subst hcs
      simp only [Rep] at g1 g3
      obtain ⟨a, dd, vs, f1, f2, f3, f4, f5⟩ := g1
      obtain ⟨tp, us, f6, f7, f8⟩ := g3
      subst f1 f6
      rw [reps_cls f8] at f7
      exact ⟨a, _, dd, ks, vs, _, b, rfl, W.le _ _ f2, f3.up W.le, t1, k _ G H as Rch.refl W (by simp [Rep]), .inr ⟨tp, cs, rfl, W.le _ _ f7, t2⟩⟩
    · cases e
  · cases e
/-- a class's name as a value -/
theorem ae_clsN {X : Cx} {E : XK} {c x : Str} {pos : Pos} (hm : X.mg x = some (.ref (He.ga K c))) (hK : X.K = K := by rfl) (hg : Gl X x := by rfl) (hdb : (x == ("__debug__" : Str)) = false := by decide) : AE K X E (.Name x pos) (tC (.ref (He.ga K c))) (sC (.cls c)) :=
  ⟨hK, pe_glob hg hm rfl hdb, .const fun _ _ => by simp [Rep]⟩
/-! ### a field of a caught exception -/
def ixOf : List Str → Str → Nat → Option Nat
  | [], _, _ => none
  | k :: ks, f, i => if k = f then some i else ixOf ks f (i + 1)
/-- e.f, for the classes cs -/
def sXf (cs : List Str) (f : Str) (a : Se) : Se := fun ρ ws => (a ρ ws).bind fun x ws1 => match x with
  | .exc c ks l => if c ∈ cs then R.ofO (((ks.zip l).lookup f)) ws1 else .bad
  | _ => .bad
theorem lookup_rep {as : List Addr} {G : Hp} {f : Str} {d : D} : ∀ {ks : List Str} {l : List D} {vs : List V}, Reps K as G l vs → (ks.zip l).lookup f = some d → ∃ v, (ks.zip vs).lookup f = some v ∧ Rep K as G d v
  | [], l, vs, r, e => by simp at e
  | k :: ks, [], vs, r, e => by simp at e
  | k :: ks, x :: l, vs, r, e => by
    obtain ⟨v, r', e1, h1, h2⟩ := r.uncons
    subst e1
    simp only [List.zip_cons_cons, List.lookup_cons] at e ⊢
    split at e
    · cases e
      exact ⟨v, by simp, h1⟩
    · exact lookup_rep h2 e
def XfT (K : PySem.W.Frag) (cs : List Str) (f : Str) : Prop := ∀ c ∈ cs, XfC K (He.ga K c) ∧ PySem.W.findIn K (.ref (He.ga K c)) f = some none
def tXg (K : PySem.W.Frag) (f : Str) (te : TE) : TE := fun σ H Q => te σ H fun x H1 => ∃ (a C dd : Addr) (fs : List (Str × V)) (v : V), x = .ref a ∧ H1 a = some (ExH (.ref C) (some dd) a) ∧ H1 dd = some (.xd fs) ∧ fs.lookup f = some v ∧ XfC K C ∧ PySem.W.findIn K (.ref C) f = some none ∧ Q v H1
theorem pe_xg {X : Cx} {e : Expr} {f : Str} {te : TE} {pos : Pos} (he : PE X e te) (hb : attributeBase e f X.env (eval e X.env) = eval e X.env := by rfl) : PE X (.Attribute e f pos) (tXg X.K f te) := by
  refine ⟨fun pins s σ H Q I h => ?_⟩
  refine attr_of hb (thn (he.run pins s σ H _ I h) fun u s1 hh => ?_)
  obtain ⟨x, H1, I1, rx, a, C, dd, fs, v, ex, e1, e2, e3, T, hno, q⟩ := hh
  subst ex
  obtain rfl : u = Value.ref a := rx
  obtain ⟨⟨oe, us, f1, f2, f3⟩, _⟩ := I1.hok a _ e1
  obtain ⟨mA, hns, hr⟩ := (show ObjOk X.prog X.w H1 s1.heap dd (.xd fs) from I1.hok dd _ e2)
  obtain ⟨od, ho, hl⟩ := lookIn_ns hns
  obtain ⟨u, hu, ru⟩ := RelO.some_of (v := v) (o := mA f) (by rw [← e3]; exact hr f)
  have J : PySem.W.InstAt s1.heap a oe C (some od) := ⟨f1, f2.1, by unfold PySem.W.notCls; rw [f3] <;> rfl, by rw [f2.2]; exact ho⟩
  exact HandSPX.exc_get I1.kIn J T.ga T.gg T.exC (PySem.W.findObj_own T.hdC hno rfl (by rw [hl, hu])) (handed_of ru) ⟨v, H1, I1.tok _, ru, q⟩
theorem ae_xf {X : Cx} {E : XK} {e : Expr} {f : Str} {te : TE} {se : Se} {pos : Pos} {cs : List Str} (T : XfT K cs f) (h : AE K X E e te se) (hb : attributeBase e f X.env (eval e X.env) = eval e X.env := by rfl) : AE K X E (.Attribute e f pos) (tXg K f te) (sXf cs f se) := by
  have e0 := h.hK
  subst e0
  refine ⟨rfl, pe_xg h.pe hb, fun ρ ws G H as σ Q W S P => h.ev ρ ws G H as σ _ W S (Post.bind P fun d ws1 x G1 H1 as1 r1 W1 rx P1 => ?_)⟩
  split at P1
  · rename_i c ks l
    split at P1
    · rename_i hc
      obtain ⟨y, ey, P2⟩ := Post.ofO P1
      simp only [Rep] at rx
      obtain ⟨a, dd, vs, f1, f2, f3, f4, f5⟩ := rx
      obtain ⟨v, g1, g2⟩ := lookup_rep f5 ey
      rcases f3 with ⟨_, e2⟩ | ⟨b, e1, e2⟩
      · subst e2
        simp at ey
      · subst e1
        exact ⟨a, _, b, _, v, f1, W1.le _ _ f2, W1.le _ _ e2, g1, (T c hc).1, (T c hc).2, Post.done P2 W1 g2⟩
    · exact False.elim P1
  · exact False.elim P1
end
end RL
set_option Elab.async false
set_option linter.all false
set_option maxRecDepth 100000
set_option maxHeartbeats 4000000
/-! RL23: raise of an own exception. -/
namespace RL
open PySem PySem.Spec PyProof.Rows L2
/-- what the making of an exception with the fields ks promises -/
def spX (C : Addr) (ks : List Str) : Sp := fun vs H Q _ => ∃ (a : Addr) (us : List V), vs = .ref a :: us ∧ us.length = ks.length ∧ H a = some (exo a C none) ∧ ∀ d, H d = none → d ≠ a → Q .non (upd (upd H d (exd d (ks.zip us).reverse)) a (exo a C (some d)))
section
variable {P : Program} {w : World} {K : PySem.W.Frag} {mg : Str → Option Value} {base : Heap} {qual : Str} {scope : Scope} {f C : Addr} {fd : FuncData} {params : Arguments} {body : List Stmt} {p0 p1 p2 p3 p4 p5 p6 p7 p8 p9 p10 p11 ap cp pE : Pos} {x y f1 f2 : Str}
theorem xfn1 {CX : CXT} (S : SupS ["self", x] scope) (hbo : body = [.Expr (.Call (.Attribute (.Call (.Name "super" p0) [] [] p1) "__init__" ap) [.Name x p2] [] cp) pE, .Assign [.Attribute (.Name "self" p3) f1 p4] (.Name x p5) p6])
    (F : SupF P K C f qual params body scope fd) (hpar : ∃ ar, (params.posonlyargs ++ params.args).head? = some ar ∧ ar.arg = "self") (hmg : mg "super" = none) (hf1 : PySem.W.findIn K (.ref C) f1 = some none) (hev : EvSup qual scope f p0 p1 ap cp [.Name x p2])
    (hx1 : (x == ("__debug__" : Str)) = false := by decide) (hx2 : (x == ("__classdict__" : Str)) = false := by decide) : FnOk P w K mg base CX 2 f fd ["self", x] (spX C [f1]) := by
  refine sup_fn (hev := hev) S hbo F hpar hmg (fun vs H Q E ⟨a, us, e, hl, _⟩ => by rw [e]; simpa using hl) fun cda cc A outer s H vs Q E hr ⟨a, us, e, hl, ha, hq⟩ => ?_
  match us, hl with
  | [u], _ =>
    subst e
    have v0 : Vis scope "self" := .inl (S.par _ (by simp))
    have v1 : Vis scope x := .inl (S.par _ (by simp))
    refine ⟨a, _, _, rfl, ha, pa_cons (pe_var (i := 1) rfl v1 hx1 hx2) pa_nil, pss_one (ps_ost (pe_var (i := 0) rfl v0) (pe_var (i := 1) rfl v1 hx1 hx2)), fun Qa h => ?_⟩
    refine ⟨u, rfl, h [u] H (by simp) ha ?_⟩
    refine ⟨u, rfl, V.ref a, rfl, a, C, rfl, F.ox, hf1, .inl ⟨ha, fun d h1 h2 => hq d h1 h2⟩⟩
theorem xfn2 {CX : CXT} (S : SupS ["self", x, y] scope) (hbo : body = [.Expr (.Call (.Attribute (.Call (.Name "super" p0) [] [] p1) "__init__" ap) [.Name x p2, .Name y p7] [] cp) pE, .Assign [.Attribute (.Name "self" p3) f1 p4] (.Name x p5) p6, .Assign [.Attribute (.Name "self" p8) f2 p9] (.Name y p10) p11])
    (F : SupF P K C f qual params body scope fd) (hpar : ∃ ar, (params.posonlyargs ++ params.args).head? = some ar ∧ ar.arg = "self") (hmg : mg "super" = none) (hf1 : PySem.W.findIn K (.ref C) f1 = some none) (hf2 : PySem.W.findIn K (.ref C) f2 = some none) (hev : EvSup qual scope f p0 p1 ap cp [.Name x p2, .Name y p7])
    (hx1 : (x == ("__debug__" : Str)) = false := by decide) (hx2 : (x == ("__classdict__" : Str)) = false := by decide) (hy1 : (y == ("__debug__" : Str)) = false := by decide) (hy2 : (y == ("__classdict__" : Str)) = false := by decide) : FnOk P w K mg base CX 2 f fd ["self", x, y] (spX C [f1, f2]) := by
  refine sup_fn (hev := hev) S hbo F hpar hmg (fun vs H Q E ⟨a, us, e, hl, _⟩ => by rw [e]; simpa using hl) fun cda cc A outer s H vs Q E hr ⟨a, us, e, hl, ha, hq⟩ => ?_
  match us, hl with
  | [u, v], _ =>
    subst e
    have v0 : Vis scope "self" := .inl (S.par _ (by simp))
    have v1 : Vis scope x := .inl (S.par _ (by simp))
    have v2 : Vis scope y := .inl (S.par _ (by simp))
    refine ⟨a, _, _, rfl, ha, pa_cons (pe_var (i := 1) rfl v1 hx1 hx2) (pa_cons (pe_var (i := 2) rfl v2 hy1 hy2) pa_nil), pss_cons (ps_ost (pe_var (i := 0) rfl v0) (pe_var (i := 1) rfl v1 hx1 hx2)) (pss_one (ps_ost (pe_var (i := 0) rfl v0) (pe_var (i := 2) rfl v2 hy1 hy2))), fun Qa h => ?_⟩
    refine ⟨u, rfl, v, rfl, h [u, v] H (by simp) ha ?_⟩
    refine ⟨u, rfl, V.ref a, rfl, a, C, rfl, F.ox, hf1, .inl ⟨ha, fun d h1 h2 => ?_⟩⟩
    refine ⟨v, rfl, V.ref a, rfl, a, C, rfl, F.ox, hf2, .inr ⟨d, [(f1, u)], upd_same, by rw [upd_ne h2, upd_same], by simp, ?_⟩⟩
    have e : upd (upd (upd H d (exd d [(f1, u)])) a (exo a C (some d))) d (exd d [(f2, v), (f1, u)]) = upd (upd H d (exd d [(f2, v), (f1, u)])) a (exo a C (some d)) := by
      funext b
      by_cases hb : b = d
      · subst hb
        rw [upd_same, upd_ne h2, upd_same]
      · by_cases hb2 : b = a
        · subst hb2
          rw [upd_ne hb, upd_same, upd_same]
        · rw [upd_ne hb, upd_ne hb2, upd_ne hb, upd_ne hb2, upd_ne hb]
    rw [e]
    exact hq d h1 h2
end
/-- what the raising of x(..) needs: an own class c, its fields -/
structure XMk (X : Cx) (x c : Str) (ks : List Str) : Prop where
  ok : ∃ (fI : Addr) (fd : FuncData) (ps : List Str), OexC X.K (He.ga X.K c) ∧ PySem.W.findIn X.K (.ref (He.ga X.K c)) "__init__" = some (some (.ref fI)) ∧ PySem.W.typeIn X.K (.ref fI) = some (.type "function") ∧ FnOk X.prog X.w X.K X.mg X.base C8.CX0 2 fI fd ps (spX (He.ga X.K c) ks) ∧ Binds X.K fd ps []
  mg : X.mg x = some (.ref (He.ga X.K c))
/-- raise c(..) -/
def sRaise (c : Str) (ks : List Str) (a : Sa) : Ss := fun ρ ws => (a ρ ws).bind fun ds ws1 => if ds.length = ks.length ∧ ks.length ≤ 900 then .ex ⟨c, ks.reverse, ds.reverse⟩ ws1 else .bad
theorem Reps.rev {K : PySem.W.Frag} {as : List Addr} {G : Hp} : ∀ {ds : List D} {vs : List V}, Reps K as G ds vs → Reps K as G ds.reverse vs.reverse
  | [], vs, h => by rw [h.unnil]; exact Reps.nil
  | d :: ds, vs, h => by
    obtain ⟨v, r, e, h1, h2⟩ := h.uncons
    subst e
    rw [List.reverse_cons, List.reverse_cons]
    exact (Reps.rev h2).app (Reps.one h1)
theorem zip_rev {α β : Type} : ∀ {l : List α} {m : List β}, l.length = m.length → (l.zip m).reverse = l.reverse.zip m.reverse
  | [], m, _ => by simp
  | a :: l, [], h => by simp at h
  | a :: l, b :: m, h => by
    have h' : l.length = m.length := by simpa using h
    rw [List.zip_cons_cons, List.reverse_cons, List.reverse_cons, List.reverse_cons, zip_rev h', List.zip_append (by simpa using h')]
    rfl
section
variable {K : PySem.W.Frag} {X : Cx} {E : XK} {e : Expr} {es : List Expr} {ta : TA} {sa : Sa} {x c : Str} {ks : List Str} {p pos pos' : Pos}
theorem as_raise (M : XMk X x c ks) (hr : Room 3 X.A) (tk : Takes X fun cls d _ H => E cls d H) (ha : AA K X E (e :: es) ta sa) (hc : X.calm = true := by rfl) (hg : Gl X x := by rfl) (hdb : (x == ("__debug__" : Str)) = false := by decide)
    (he : starEach (e :: es) X.env = (false, eval e X.env) :: starEach es X.env := by rfl) (hpl : (backTo pos (starEach es X.env)).any (·.1) = false := by rfl) :
    AS K X E (.Raise (some (.Call (.Name x p) (e :: es) [] pos)) none pos') (fun _ σ H => tMkO (He.ga K c) (spX (He.ga K c) ks) [] ta σ H fun cls d H' => E cls d H') (sRaise c ks sa) := by
  have e0 := ha.hK
  subst e0
  obtain ⟨fI, fd, ps, T, iC, tI, F1, hb⟩ := M.ok
  refine ⟨rfl, ps_raise hc tk (pmk_oex T iC tI F1 hr hb .nil pass0 hg M.mg ha.pe hdb he hpl), fun ρ ws G H as σ D W S P => ?_⟩
  show ta σ H _
  refine ha.ev ρ ws G H as σ _ W S (PostS.bind P fun ds ws1 vs G1 H1 as1 r1 W1 rs P1 => ?_)
  split at P1
  · rename_i hl
    obtain ⟨hl, hk⟩ := hl
    have lv : vs.length = ks.length := by rw [← rs.len]; exact hl
    refine ⟨by omega, fun a ha0 => ⟨a, vs, by simp, lv, upd_same, fun d hd hda => ⟨rfl, d, (ks.zip vs).reverse, upd_same, by rw [upd_ne hda, upd_same], ?_, ?_⟩⟩⟩
    · rw [upd_ne hda] at hd
      exact hd
    · have hd1 : H1 d = none := by
        rw [upd_ne hda] at hd
        exact hd
      have e : upd (del (upd (upd (upd H1 a (exo a (He.ga X.K c) none)) d (exd d (ks.zip vs).reverse)) a (exo a (He.ga X.K c) (some d))) a) d (.xd (ks.zip vs).reverse) = upd H1 d (.xd (ks.zip vs).reverse) := by
        funext b
        by_cases hb : b = d
        · subst hb
          rw [upd_same, upd_same]
        · rw [upd_ne hb, upd_ne hb]
          by_cases hb2 : b = a
          · subst hb2
            rw [del_same, ha0]
          · rw [del_ne hb2, upd_ne hb2, upd_ne hb, upd_ne hb2]
      rw [e]
      have P2 : PostX X.K E G1 H1 as1 ⟨c, ks.reverse, ds.reverse⟩ ws1 := P1
      refine P2 _ _ (upd G1 d (.xd (ks.zip vs).reverse)) _ as1 (Rch.new W1.le hd1) (W1.new hd1) ⟨rfl, vs.reverse, .inr ⟨d, rfl, ?_⟩, by simpa using hl.symm, (Reps.rev rs).up (List.prefix_refl _) (Rch.new (as := as1) W1.le hd1).up⟩
      rw [upd_same, zip_rev lv.symm]
  · exact False.elim P1
/-- an own class without own making, made of nothing -/
structure XMk0 (X : Cx) (x c : Str) : Prop where
  ex : PySem.W.excIn X.K (He.ga X.K c) [.type "ValueError", .type "Exception", .type "BaseException", .type "object"] "ValueError.__new__" = true
  kp : PySem.W.keepIn X.K (.ref (He.ga X.K c)) = true
  b : PySem.W.subIn X.K (.ref (He.ga X.K c)) (.type "BaseException") = some true
  t : PySem.W.typeIn X.K (.ref (He.ga X.K c)) = some (.type "type")
  mg : X.mg x = some (.ref (He.ga X.K c))
def sRaise0 (c : Str) : Ss := fun _ ws => .ex ⟨c, [], []⟩ ws
theorem as_raise0 (M : XMk0 X x c) (tk : Takes X fun cls d _ H => E cls d H) (hK : X.K = K := by rfl) (hc : X.calm = true := by rfl) (hg : Gl X x := by rfl) (hdb : (x == ("__debug__" : Str)) = false := by decide) :
    AS K X E (.Raise (some (.Call (.Name x p) [] [] pos)) none pos') (fun _ σ H => E (.ref (He.ga K c)) none H) (sRaise0 c) := by
  subst hK
  have hp : PMk X (.Call (.Name x p) [] [] pos) (fun _ H Q => Q (.ref (He.ga X.K c)) none H) := by
    intro pins s σ H Q I h
    refine wpAny_Call_Name_kw (ld_glob I hg M.mg ?_ hdb)
    refine PySem.W.callWith_K0 I.kIn M.kp ?_
    show wpAny _ _ (call (.ref (He.ga X.K c)) []) _ _ _
    obtain ⟨bm, N, nm, qn, bs, hdct, sn, sub, ab, col, dd, k0, k1, k2, k3, k5, mN, hC, hN, hni, T⟩ := exc_obj I.kIn M.ex
    refine wpAny_call_exc_subT PySem.F.excBase_ValueError T hC hN hni (fun h' e hm => ?_) (Nat.zero_le _)
    exact mk_of I hm (raises_own M.b M.t) h (I.hok.gone hm.new)
  refine ⟨rfl, ps_raise hc tk hp, fun ρ ws G H as σ D W S P => ?_⟩
  have P2 : PostX X.K E G H as ⟨c, [], []⟩ ws := P
  exact P2 _ _ G H as Rch.refl W ⟨rfl, [], .inl ⟨rfl, rfl⟩, rfl, Reps.nil⟩
end
end RL
set_option Elab.async false
set_option linter.all false
set_option maxRecDepth 100000
set_option maxHeartbeats 4000000
/-! RL24: f(lambda: e), f's body: caught = None; try: return [ask()] / except X as n: caught = n; then what is told of the caught one. -/
namespace RL
open PySem PySem.Spec PyProof.Rows L2 LamX
section
variable {X : Cx} {pins : List (Addr × Obj)} {σ : L2.St} {H : Hp} {s : Shared}
/-- ask(), where an exception is wished for at the caller's slots -/
theorem pe_ask {CXg : CXT} {Eg : XK} {Ng : List Str} {qg : Str} {sg : Scope} {g f c' : Addr} {cdg pm ctv : Value} {params : Arguments} {body : Expr} {scope : Scope} {k i : Nat} {a : Str} {pn : List (Addr × Obj)} {xe : Value → Shared → Prop} {W : WX} {tb : XK → TE} {p1 p2 : Pos}
    (I : Inv X pins σ H s) (L : LamS X.env.scope scope) (hf : s.heap.get? f = some (PySem.W.kla_obj "<lambda>" (X.env.qual ++ "<lambda>") params body scope (cloFrom X.env.cells scope.names []) pm c' ctv)) (hfn : H f = none) (hfr : f ∉ frs X.stack)
    (hbind : bindArgs (PySem.W.kla_fn "<lambda>" (X.env.qual ++ "<lambda>") params body scope (cloFrom X.env.cells scope.names []) pm (.ref c') ctv) ⟨[], []⟩ = pure [])
    (tk : Takes ((cxOf CXg X.prog X.w X.K X.mg X.base Ng qg sg g cdg X.A X.stack s H Eg).tr pn xe) W) (hr : Room (k + 1) (X.A.deeper (envOfC qg sg s.heap.objs.size g cdg)))
    (hbody : ∀ (E : XK) (A : Around) (outer : List Env) (s : Shared) (H : Hp), A.guards = X.A.guards → Room k (A.deeper (lamEnv X scope s.heap.objs.size f c')) → PE (lamCx X A outer s H E scope f c') body (tb E))
    (hN : Ng[i]? = some a) (hv : Vis sg a) (hd : (a == ("__debug__" : Str)) = false) (hcd : (a == ("__classdict__" : Str)) = false) :
    PE ((cxOf CXg X.prog X.w X.K X.mg X.base Ng qg sg g cdg X.A X.stack s H Eg).tr pn xe) (.Call (.Name a p1) [] [] p2)
      (fun σZ HZ Q => σZ[i]? = some (some (.ref f)) ∧ HZ c' = some (CodeO c' (X.env.qual ++ "<lambda>")) ∧ tb (WE W σZ) σ HZ Q) := by
  refine ⟨fun pinsZ sZ σZ HZ Q IZ h => ?_⟩
  obtain ⟨h0, h1, h2⟩ := h
  refine wpAny_Call_Name_kw (thn ((pe_var (pos := p1) (i := i) hN hv hd hcd).run pinsZ sZ σZ HZ (fun v H1 => v = .ref f ∧ H1 = HZ) IZ ⟨.ref f, h0, rfl, rfl⟩) fun u s1 ⟨v, H1, I1, r1, q1⟩ => ?_)
  obtain ⟨ev, eH⟩ := q1
  subst ev
  rw [eH] at I1
  obtain rfl : u = Value.ref f := r1
  have of1 := I1.base.keep f _ hf hfn hfr (fun z => nomatch (show f ∈ ([] : List Addr) from z))
  refine PySem.W.callWith_F0 ⟨_, _, _, _, of1⟩ ?_
  have un : Un (frs X.stack) [] H HZ s.heap s1.heap := I1.base
  obtain ⟨⟨oc, vs, t, hoc, hdc, hvc⟩, _, _⟩ := I1.hok c' _ h1
  have rc : codeAny (model X.prog X.w) (X.A.deeper (envOfC qg sg s.heap.objs.size g cdg)) (.call (.ref f) ⟨[], []⟩) (CR (L2.CX X.prog X.w) (envOfC qg sg s.heap.objs.size g cdg :: X.stack) X.prog X.w HZ s1 Q (WE W σZ)) s1 := by
    refine PySem.W.kla_callFunE hr.depth of1 rfl L.co L.gen rfl ⟨c', oc, vs, t, rfl, hoc, hdc, hvc⟩ ?_
    rw [hbind]
    refine wpAny_pure (wpAny_newFunctionEnv (fun y hy => (L.own y hy).2) (fun y hy => absurd hy (by simp)) (fun h₁ hns hsb => ⟨I1.nolimit.fresh _ hsb, ?_⟩) L.kind)
    show codeAny _ _ (.expr body (lamEnv X scope s1.heap.objs.size f c')) _ _
    have kp : ∀ b o, s1.heap.get? b = some o → h₁.get? b = some o := fun b o e => hsb.extBut b o (Nat.ne_of_lt (Heap.lt_size e)) (Heap.get?_push_of_some _ e)
    have J : Inv (lamCx X (X.A.deeper (envOfC qg sg s.heap.objs.size g cdg)) (envOfC qg sg s.heap.objs.size g cdg :: X.stack) s1 HZ (WE W σZ) scope f c') [] σ HZ { s1 with heap := h₁, toks := s1.toks + ([] : List (Str × Value)).length } :=
      lam_start2 I L I1.env0 hr.hd un hns kp
    refine PySem.W.kla_codeExpr (wpAny_mono ((hbody _ (X.A.deeper (envOfC qg sg s.heap.objs.size g cdg)) _ s1 HZ rfl (hr.deeper _)).run [] _ _ HZ Q J h2) (fun v s' hq => ?_) fun e s' hq => hq)
    obtain ⟨w', H', J', rv, q⟩ := hq
    exact ⟨w', H', J'.os, J'.bare, J'.base, J'.hok, rv, q⟩
  have hx := passAt tk σZ
  refine wpAny_call (codeAny_mono rc fun r s' hq => ?_)
  cases r with
  | error e => exact hx pinsZ HZ s1 e s' I1 hq
  | ok fl =>
    cases fl with
    | ret u => exact I1.after hq
    | next => exact False.elim hq
    | brk => exact False.elim hq
    | cont => exact False.elim hq
end
/-- the def that got a lambda: TT tells what it makes of the lambda's reading -/
def Asks (X : Cx) (Ng : List Str) (x : Str) (sg : Scope) (g : Addr) (cdg : Value) (bg : List Stmt) (a : Str) (q : Str) (TT : (XK → Hp → VK → Prop) → Hp → VK → Prop) : Prop :=
  ∀ (f c' : Addr) (s : Shared) (H : Hp) (Q : VK) (tl : XK → Hp → VK → Prop),
    (∀ (W : WX) (pn : List (Addr × Obj)) (xe : Value → Shared → Prop) (p1 p2 : Pos), Takes ((cxOf C8.CX0 X.prog X.w X.K X.mg X.base Ng x sg g cdg X.A X.stack s H C8.E0).tr pn xe) W →
      PE ((cxOf C8.CX0 X.prog X.w X.K X.mg X.base Ng x sg g cdg X.A X.stack s H C8.E0).tr pn xe) (.Call (.Name a p1) [] [] p2) (fun σZ HZ Q => σZ[0]? = some (some (.ref f)) ∧ HZ c' = some (CodeO c' q) ∧ tl (WE W σZ) HZ Q)) →
    H c' = some (CodeO c' q) → TT tl H Q →
    ∃ t, PSs (cxOf C8.CX0 X.prog X.w X.K X.mg X.base Ng x sg g cdg X.A X.stack s H C8.E0).nox bg t ∧ t { nx := fun _ H' => Q .non H', rt := Q } (L2.start Ng [.ref f]) H
section
variable {X : Cx}
theorem pe_asks {T : List (Addr × Str)} {TT : (XK → Hp → VK → Prop) → Hp → VK → Prop} {x a : Str} {g c P : Addr} {k : Nat} {pg : Arguments} {bg : List Stmt} {sg : Scope} {dV kV doc pm cdv ct oc : Value} {an od : Option Addr} {osl : Array (Option Value)} {Ng : List Str}
    {params : Arguments} {body : Expr} {scope : Scope} {t : XK → TE} {p lpos pos : Pos} (hg : Gl X x) (hm : X.mg x = some (.ref g)) (hk : PySem.W.keepIn X.K (.ref g) = true)
    (lk : X.K.lookup g = some ⟨oc, od, .func (PySem.W.fnOf x x pg bg sg dV kV doc pm an cdv ct), osl⟩) (hcg : PySem.W.codeIn X.K cdv x = true) (hb : L2.Binds X.K (PySem.W.fnOf x x pg bg sg dV kV doc pm an cdv ct) [a] []) (Sg : FnScope Ng [a] sg) (hNg : Ng[0]? = some a) (hva : Vis sg a)
    (hG : Asks X Ng x sg g cdv bg a (X.env.qual ++ "<lambda>") TT)
    (TB : TabB X.base X.mg c P) (hcode : X.env.code = .ref c) (hmT : (P, X.env.qual ++ "<lambda>") ∈ T) (hu : ∀ p ∈ T, p.1 = P → p.2 = X.env.qual ++ "<lambda>") (hr : Room (k + 2) X.A) (L : LamS X.env.scope scope) (hdef : defaultsOf params X.env = ([], []))
    (hbind : ∀ (q : Str) (cl : List (Str × Addr)) (pm cv ctv : Value), bindArgs (PySem.W.kla_fn "<lambda>" q params body scope cl pm cv ctv) ⟨[], []⟩ = pure [])
    (hbody : ∀ (E : XK) (A : Around) (outer : List Env) (s : Shared) (H : Hp) (f c' : Addr), A.guards = X.A.guards → Room k (A.deeper (lamEnv X scope s.heap.objs.size f c')) → PE (lamCx X A outer s H E scope f c') body (t E))
    (hdb : (x == ("__debug__" : Str)) = false := by decide) (hd : (a == ("__debug__" : Str)) = false := by decide) (hcd : (a == ("__classdict__" : Str)) = false := by decide) :
    PE X (.Call (.Name x p) [.Lambda params body scope lpos] [] pos) (tLam T TT t) := by
  refine ⟨fun pins s σ H Q I h => ?_⟩
  obtain ⟨hT, h⟩ := h
  refine wpAny_Call_Name_kw (ld_glob I hg hm ?_ hdb)
  refine PySem.W.callWith_K (h₀ := X.base) I.ok.mod.kin hk ?_ (by rfl) (by rfl)
  show wpAny _ _ (spliced ((false, eval (.Lambda params body scope lpos) X.env) :: backTo pos (starEach [] X.env))) _ _ s
  refine Calls.spliced_cons (lam_make2 I TB hcode hmT hu hT hdef (L.has I.ok) fun f c' pm' ctv H1 s' I1 eN T1 hf hfn hfr hco => ?_)
  refine Calls.spliced_nil ⟨I1.kIn, ?_⟩
  have rc : codeAny (model X.prog X.w) X.A (.call (.ref g) ⟨[.ref f], []⟩) (CR C8.CX0 X.stack X.prog X.w H1 s' Q C8.E0) s' := by
    refine run_ofS (N := Ng) (ps := [a]) (us := [.ref f]) (vs := [.ref f]) lk hcg Sg hr I1.env0 (hb s' [.ref f] I1.kIn rfl) (.cons rfl .nil) rfl fun hr' => ?_
    obtain ⟨t', ht', hq'⟩ := hG f c' s' H1 Q (fun E H' Q' => t E σ H' Q') (fun W pn xe p1 p2 tk => pe_ask (i := 0) I1 L hf hfn hfr (hbind _ _ _ _ _) tk hr' (fun E A outer s H ga hr2 => hbody E A outer s H f c' ga hr2) hNg hva hd hcd) hco (h H1 eN T1)
    exact ⟨t', ht'.nox, hq'⟩
  refine wpAny_call (codeAny_mono rc fun r s2 hq => ?_)
  cases r with
  | error e => exact (show False from hq).elim
  | ok fl =>
    cases fl with
    | ret u => exact I1.after hq
    | next => exact False.elim hq
    | brk => exact False.elim hq
    | cont => exact False.elim hq
end
/-! ### f(lambda: e) by what f does with what the lambda gives or raises -/
/-- cat: is an exception of this class caught; gr: what is told of it -/
def hrd (cat : List (Str × Bool)) (Ng : List Str) (gr : Ss) (ask : List Ce → R D) (ws : List Ce) : R D := match ask ws with
  | .ok d ws1 => .ok (.lst [d]) ws1
  | .ex e ws1 => if cat.lookup e.c = some true then nox (flR (gr ((List.replicate Ng.length none).set 1 (some (.exc e.c e.ks e.l))) ws1)) else .bad
  | .bad => .bad
def sAsk (m : (List Ce → R D) → List Ce → R D) (el : Se) : Se := fun ρ ws => m (fun ws1 => el ρ ws1) ws
/-- the slots behind the clause -/
def slX (Ng : List Str) (f a : Addr) : L2.St := ((((L2.start Ng [V.ref f]).set 1 (some .non)).set 2 (some (.ref a))).set 1 (some (.ref a))).set 2 none
def TH (K : PySem.W.Frag) (c : Value) (Ng : List Str) (tr : TS) : (XK → Hp → VK → Prop) → Hp → VK → Prop := fun tl H Q => ∀ f : Addr,
  tl (fun cls dd H1 => ∃ b, PySem.W.exmOne K cls c = some b ∧ (b = true → ∀ a, H1 a = none → tr { nx := fun _ H' => Q .non H', rt := Q } (slX Ng f a) (upd H1 a (ExH cls dd a))) ∧ (b = false → False)) H fun v H1 => [v].length ≤ sizeLine ∧ ∀ p, H1 p = none → Q (.ref p) (upd H1 p (.lst [v]))
section
variable {P : Program} {w : World} {K : PySem.W.Frag} {mg : Str → Option Value} {base : Heap} {X : Cx} {E : XK}
theorem asks_of {Ng : List Str} {x a n m y q : Str} {sg : Scope} {g : Addr} {cdg c : Value} {rest : List Stmt} {tr : TS} {j : Nat} {p1 p2 p3 p4 p5 p6 p7 p8 p9 p10 p11 p12 p13 : Pos} (nd : Ng.Nodup) (h0 : Ng[0]? = some a) (h1 : Ng[1]? = some m) (h2 : Ng[2]? = some n)
    (lm : sg.names.lookup m = some .local) (ln : sg.names.lookup n = some .local) (hge : sg.names.lookup y = some .globalImplicit) (hme : X.mg y = some c) (hde : (y == ("__debug__" : Str)) = false)
    (hrest : ∀ (s : Shared) (H : Hp), PSs (cxOf C8.CX0 X.prog X.w X.K X.mg X.base Ng x sg g cdg X.A X.stack s H C8.E0).nox rest tr)
    (hsw1 : ∀ (s : Shared), swapsWith (.Constant .none j p2) (some (.Name m p1)) p3.line (envOfC x sg s.heap.objs.size g cdg) = pure false := by intro _; rfl)
    (hsw2 : ∀ (s : Shared), swapsWith (.Name n p10) (some (.Name m p9)) p11.line (envOfC x sg s.heap.objs.size g cdg) = pure false := by intro _; rfl)
    (hn1 : (n == ("__debug__" : Str)) = false := by decide) (hn2 : (n == ("__classdict__" : Str)) = false := by decide) :
    Asks X Ng x sg g cdg (.Assign [.Name m p1] (.Constant .none j p2) p3 :: .Try [.Return (some (.List [.Call (.Name a p4) [] [] p5] p6)) p7] [.ExceptHandler (some (.Name y p8)) (some n) [.Assign [.Name m p9] (.Name n p10) p11] p12] [] [] p13 :: rest) a q (TH X.K c Ng tr) := by
  intro f c' s H Q tl act hc h
  refine ⟨_, pss_cons (ps_set (i := 1) nd h1 (.inl lm) pe_non (hsw1 s) (.inr lm)) (pss_cons (ps_try_keep (i := 2) (j := 1) (c := c) (tb := fun W => tRet (tLst (tCons (fun σZ HZ Q => σZ[0]? = some (some (.ref f)) ∧ HZ c' = some (CodeO c' q) ∧ tl (WE W σZ) HZ Q) tNil))) rfl rfl rfl nd h2 h1 (by decide) ln lm ⟨hge, hde, .inl hme⟩ L2.takes0
    (fun W pn xe tk _ => pss_one (ps_ret (pe_lst (pa_cons (act W pn xe p4 p5 tk) pa_nil)))) (hsw2 s) hn1 hn2) (hrest s H)), ?_⟩
  exact ⟨rfl, hc, h f⟩
theorem Rch.extN {G H H1 : Hp} {as : List Addr} (eN : ExtN H H1) : Rch G H as G H1 as where
  up := Same.refl _
  pre := List.prefix_refl _
  fr := fun b o _ e k => eN b o e k
  nw := fun _ _ e => e
  fs := fun _ h => .inl h
  th := fun b ⟨o, e, k⟩ => ⟨o, eN b o e k, k⟩
theorem Wd.extN {G H H1 : Hp} {as : List Addr} {ws : List Ce} (W : Wd K G H as ws) (eN : ExtN H H1) (T : Tabs (tabsK K) H1) : Wd K G H1 as ws where
  le := fun b o e => eN b o (W.le b o e) fun ps z => W.ng b ps (by rw [e, z])
  len := W.len
  nd := W.nd
  out := fun a ha => ⟨(W.out a ha).1, (Rch.extN (G := G) (as := as) eN).th a (W.out a ha).2⟩
  at_ := fun i c a e e' => by
    rcases W.at_ i c a e e' with q | ⟨o, q, r⟩
    · exact .inl q
    · refine .inr ⟨o, eN a o q ?_, r⟩
      obtain ⟨o', e2, k⟩ := (W.out a (List.mem_of_getElem? e')).2
      rw [q] at e2
      cases e2
      exact k
  tb := T
  ng := W.ng
theorem slX_get {Ng : List Str} {f a : Addr} (h : 3 ≤ Ng.length) : (slX Ng f a)[1]? = some (some (.ref a)) := by
  unfold slX
  have hl : (L2.start Ng [V.ref f]).length = Ng.length := by
    simp [L2.start]
    omega
  rw [List.getElem?_set_ne (by decide), List.getElem?_set_self (by simp [hl]; omega)]
theorem slX_len {Ng : List Str} {f a : Addr} (h : 3 ≤ Ng.length) : (slX Ng f a).length = Ng.length := by
  unfold slX
  simp [L2.start]
  omega
/-- what f(lambda: ..) needs of f and of the def that stands around -/
theorem ae_asks {cat : List (Str × Bool)} {Ng : List Str} {gr : Ss} {tr : TS} {x a : Str} {g c P0 : Addr} {cv : Value} {k : Nat} {pg : Arguments} {bg : List Stmt} {sg : Scope} {fd : FuncData} {params : Arguments} {body : Expr} {scope : Scope} {p lpos pos : Pos} {el : Se}
    (F : FunD X.K x x pg bg sg [] [] g fd) (hb : L2.Binds X.K fd [a] []) (Sg : FnScope Ng [a] sg) (hm : X.mg x = some (.ref g)) (h3 : 3 ≤ Ng.length) (h0 : Ng[0]? = some a) (hva : Vis sg a) (hG : ∀ cdg : Value, Asks X Ng x sg g cdg bg a (X.env.qual ++ "<lambda>") (TH X.K cv Ng tr))
    (hgr : EvS X.K C8.E0 tr gr) (hcat : ∀ c' b, cat.lookup c' = some b → PySem.W.exmOne X.K (.ref (He.ga X.K c')) cv = some b)
    (TB : TabB X.base X.mg c P0) (hcode : X.env.code = .ref c) (hmT : (P0, X.env.qual ++ "<lambda>") ∈ tabsK X.K) (hu : ∀ p ∈ tabsK X.K, p.1 = P0 → p.2 = X.env.qual ++ "<lambda>") (hr : Room (k + 2) X.A) (L : LamS X.env.scope scope)
    (hbody : ∀ E : XK, ∃ te, ∀ (A : Around) (outer : List Env) (s : Shared) (H : Hp) (f c' : Addr), A.guards = X.A.guards → Room k (A.deeper (lamEnv X scope s.heap.objs.size f c')) → AE X.K (lamCx X A outer s H E scope f c') E body te el)
    (hg : Gl X x := by rfl) (hdef : defaultsOf params X.env = ([], []) := by rfl)
    (hbind : ∀ (q : Str) (cl : List (Str × Addr)) (pm cv ctv : Value), bindArgs (PySem.W.kla_fn "<lambda>" q params body scope cl pm cv ctv) ⟨[], []⟩ = pure [] := by intros; rfl)
    (hdb : (x == ("__debug__" : Str)) = false := by decide) (hd : (a == ("__debug__" : Str)) = false := by decide) (hcd : (a == ("__classdict__" : Str)) = false := by decide) :
    AE X.K X E (.Call (.Name x p) [.Lambda params body scope lpos] [] pos) (tLam (tabsK X.K) (TH X.K cv Ng tr) fun E => Classical.choose (hbody E)) (sAsk (hrd cat Ng gr) el) := by
  obtain ⟨oc, od, dV, kV, doc, pm, an, cdv, ct, osl, rfl, lk, hcg, _, _⟩ := F.ex
  refine ⟨rfl, pe_asks hg hm F.kp lk hcg hb Sg h0 hva (hG cdv) TB hcode hmT hu hr L hdef hbind (fun E A outer s H f c' ga hr' => (Classical.choose_spec (hbody E) A outer s H f c' ga hr').pe) hdb hd hcd, fun ρ ws G H as σ Q W S Pt => ?_⟩
  refine ⟨W.tb, fun H1 eN T1 f => ?_⟩
  have R1 : Rch G H as G H1 as := Rch.extN eN
  have W1 := W.extN eN T1
  refine ((Classical.choose_spec (hbody _) X.A X.stack X.s_0 X.H_0 0 0 rfl ((hr.mono (by omega)).deeper _)).ev) ρ ws G H1 as σ _ W1 S ?_
  have Pt : Post X.K E (Rep X.K) G H as (hrd cat Ng gr (fun ws1 => el ρ ws1) ws) Q := Pt
  unfold hrd at Pt
  cases q : el ρ ws with
  | bad =>
    simp only [q] at Pt
    exact False.elim Pt
  | ok d ws2 =>
    simp only [q] at Pt
    intro v G2 H2 as2 r2 W2 rep
    refine ⟨by show 1 ≤ sizeLine; rw [sizeLine_eq]; omega, fun pp hp => ?_⟩
    refine Pt _ (upd G2 pp (.lst [v])) _ as2 ((R1.trans r2).trans (Rch.new W2.le hp)) (W2.new hp) ?_
    simp only [Rep]
    exact ⟨pp, [v], rfl, upd_same, Reps.one (rep.up (List.prefix_refl _) (Rch.new (as := as2) W2.le hp).up)⟩
  | ex e ws2 =>
    simp only [q] at Pt
    split at Pt
    · rename_i hc
      intro cls dd G2 H2 as2 r2 W2 rx
      obtain ⟨e1, vs, e2, e3, e4⟩ := rx
      subst e1
      refine ⟨true, hcat _ _ hc, fun _ aa haa => ?_, fun z => nomatch z⟩
      have W3 := W2.new (o := ExH (.ref (He.ga X.K e.c)) dd aa) haa ext_tbl
      have R3 := (R1.trans r2).trans (Rch.new (as := as2) (o := ExH (.ref (He.ga X.K e.c)) dd aa) W2.le haa ext_tbl)
      refine hgr _ ws2 _ _ as2 (slX Ng f aa) _ W3 ⟨by rw [slX_len h3]; simp, fun i d hd => ?_⟩ (flR_post (nox_post (E := E) (Post.from Pt R3)))
      by_cases hi : i = 1
      · subst hi
        rw [List.getElem?_set_self (by simp; omega)] at hd
        cases hd
        refine ⟨_, slX_get h3, ?_⟩
        simp only [Rep]
        exact ⟨aa, dd, vs, rfl, upd_same, e2.up (Rch.new (as := as2) W2.le haa ext_tbl).up, e3, e4.up (List.prefix_refl _) (Rch.new (as := as2) W2.le haa ext_tbl).up⟩
      · rw [List.getElem?_set_ne (Ne.symm hi), List.getElem?_replicate] at hd
        split at hd <;> cases hd
    · exact False.elim Pt
end
end RL
set_option Elab.async false
set_option linter.all false
set_option maxRecDepth 100000
set_option maxHeartbeats 4000000
/-! RL25: facts of own exception classes as Bools, the hook with their makings; defs that make lambdas. -/
namespace RL
open PySem PySem.Spec PyProof.Rows L2 LamX
/-! ### an own exception class -/
def oexShape (K : PySem.W.Frag) (C : Addr) : Bool := match K.lookup C with
  | some ⟨.type "type", _, .cls cd, sl⟩ => (match cd.mro, sl.toList with
    | .ref C' :: bm, [_, _, _, _, some (.builtin n), _] => decide (C' = C) && (decide (n = "ValueError.__new__") && (!cd.hasDel && (cd.hasDict && PySem.HandSPX.refsVE bm)))
    | _, _ => false)
  | _ => false
def oexB (c : Str) : Tst := fun K => oexShape K (He.ga K c) && (He.eqO (PySem.W.findIn K (.ref (He.ga K c)) "__setattr__") (some (some (.builtin "object.__setattr__"))) && (decide (PySem.W.subIn K (.ref (He.ga K c)) (.type "BaseException") = some true) &&
  (decide (PySem.W.typeIn K (.ref (He.ga K c)) = some (.type "type")) && PySem.W.keepIn K (.ref (He.ga K c)))))
theorem oex_of {K : PySem.W.Frag} {c : Str} (h : oexB c K = true) : OexC K (He.ga K c) := by
  obtain ⟨h1, h⟩ := He.ba h
  obtain ⟨h2, h⟩ := He.ba h
  obtain ⟨h3, h⟩ := He.ba h
  obtain ⟨h4, h5⟩ := He.ba h
  refine ⟨?_, He.eqO_ok h2, of_decide_eq_true h3, of_decide_eq_true h4, h5⟩
  unfold oexShape at h1
  split at h1
  · rename_i dd cd sl ho
    split at h1
    · rename_i C' bm k0 k1 k2 k3 n k5 hm hs
      obtain ⟨a1, h1⟩ := He.ba h1
      obtain ⟨a2, h1⟩ := He.ba h1
      obtain ⟨a3, h1⟩ := He.ba h1
      obtain ⟨a4, a5⟩ := He.ba h1
      have a1 := of_decide_eq_true a1
      have a2 := of_decide_eq_true a2
      obtain ⟨nm, bs, mro, ns, qn, hd, sn, sub, ab, col, dl⟩ := cd
      have b3 : dl = false := by
        have q : (!dl) = true := a3
        cases dl
        · rfl
        · cases q
      have b4 : hd = true := a4
      dsimp only at hm
      subst hm a1 a2 b3 b4
      have hsl : sl = #[k0, k1, k2, k3, some (.builtin "ValueError.__new__"), k5] := by
        obtain ⟨l⟩ := sl
        simp only at hs
        rw [hs]
      subst hsl
      exact ⟨nm, qn, ns, bs, bm, sn, sub, ab, col, dd, k0, k1, k2, k3, k5, ho, a5⟩
    · cases h1
  · cases h1
/-- a def that closes over its class: its address, parts, the class, the file of its code -/
structure Xf where
  cls : Str
  qual : Str
  params : Arguments
  body : List Stmt
  scope : Scope
def iniA (K : PySem.W.Frag) (c : Str) : Addr := match PySem.W.findIn K (.ref (He.ga K c)) "__init__" with
  | some (some (.ref p)) => p
  | _ => 0
def fnAtX (K : PySem.W.Frag) (a : Addr) : He.FnW := match K.lookup a with
  | some ⟨_, _, .func fd, _⟩ => some (fd.name, fd.qualname, fd.params, fd.body, fd.scope, fd.globals, [], fd.builtins)
  | _ => none
def Xf.val (d : Xf) : He.FnW := some ("__init__", d.qual, d.params, .stmts d.body, d.scope, mainGlobals, [], builtinsNs)
def celB (K : PySem.W.Frag) (cc C : Addr) : Bool := match K.lookup cc with
  | some ⟨_, _, .cell (some (.ref C')), _⟩ => decide (C' = C)
  | _ => false
def codB (K : PySem.W.Frag) (cda : Addr) (file : Str) : Bool := match K.lookup cda with
  | some ⟨_, _, .fields vs, _⟩ => (match (vs[2]? : Option Value) with
    | some (.str f _) => decide (f = file)
    | _ => false)
  | _ => false
def cloB (K : PySem.W.Frag) (C : Addr) : List (Str × Addr) → Bool
  | [(n, cc)] => decide (n = "__class__") && celB K cc C
  | _ => false
def cdeB (K : PySem.W.Frag) (file qual : Str) : Value → Bool
  | .ref cda => PySem.W.codeIn K (.ref cda) qual && codB K cda file
  | _ => false
def isNoneV : Value → Bool
  | .none => true
  | _ => false
def supB (file : Str) (d : Xf) : Tst := fun K => oexB d.cls K && (decide (PySem.W.ks_superIn K (He.ga K d.cls) (He.ga K d.cls) "__init__" = some (some (.builtin "ValueError.__init__"))) && (decide (PySem.W.subIn K (.ref (He.ga K d.cls)) (.type "ValueError") = some true) &&
  (decide (PySem.W.mroIn K (He.ga K d.cls) (.ref (He.ga K d.cls)) = some true) && (He.eqO (PySem.W.nsIn K cStatics "thirdparty.any") (some none) && (He.eqO (PySem.W.findIn K (.ref (He.ga K d.cls)) "__init__") (some (some (.ref (iniA K d.cls)))) &&
  (decide (PySem.W.typeIn K (.ref (iniA K d.cls)) = some (.type "function")) && (match K.lookup (iniA K d.cls) with
    | some ⟨_, _, .func fd, _⟩ => isNoneV fd.defaults && (cloB K (He.ga K d.cls) fd.closure && cdeB K file d.qual fd.code)
    | _ => false)))))))
structure XfOk (P : Program) (K : PySem.W.Frag) (d : Xf) : Prop where
  sup : ∃ fd, SupF P K (He.ga K d.cls) (iniA K d.cls) d.qual d.params d.body d.scope fd ∧ (fd.defaults = .none)
  ini : PySem.W.findIn K (.ref (He.ga K d.cls)) "__init__" = some (some (.ref (iniA K d.cls)))
  tyI : PySem.W.typeIn K (.ref (iniA K d.cls)) = some (.type "function")
theorem xf_of {P : Program} {K : PySem.W.Frag} {d : Xf} {file : Str} (hP : P.main.file = file) (htop : (P.main.scope.names.lookup ("super" : Str)).isSome = false) (e : fnAtX K (iniA K d.cls) = d.val) (h : supB file d K = true) : XfOk P K d := by
  obtain ⟨h1, h⟩ := He.ba h
  obtain ⟨h2, h⟩ := He.ba h
  obtain ⟨h3, h⟩ := He.ba h
  obtain ⟨h4, h⟩ := He.ba h
  obtain ⟨h5, h⟩ := He.ba h
  obtain ⟨h6, h⟩ := He.ba h
  obtain ⟨h7, h⟩ := He.ba h
  refine ⟨?_, He.eqO_ok h6, of_decide_eq_true h7⟩
  unfold fnAtX at e
  cases q : K.lookup (iniA K d.cls) with
  | none =>
    rw [q] at h
    cases h
  | some o =>
    obtain ⟨oc, od, dt, osl⟩ := o
    rw [q] at h e
    cases dt with
    | func fd =>
      obtain ⟨a1, a2, a3, a4, a5, a6, a7, a8, a9, b1, b2, b3, b4, b5, b6⟩ := fd
      have e2 : (some (a1, a2, a3, a4, a5, a6, ([] : List (Str × Addr)), b6) : He.FnW) = some (("__init__" : Str), d.qual, d.params, .stmts d.body, d.scope, mainGlobals, [], builtinsNs) := e
      simp only [Option.some.injEq, Prod.mk.injEq] at e2
      obtain ⟨z1, z2, z3, z4, z5, z6, _, z8⟩ := e2
      subst z1 z2 z3 z4 z5 z6 z8
      have h : (isNoneV a8 && (cloB K (He.ga K d.cls) a7 && cdeB K file d.qual b4)) = true := h
      obtain ⟨k1, h⟩ := He.ba h
      obtain ⟨k2, k3⟩ := He.ba h
      have k1 : a8 = .none := by
        unfold isNoneV at k1
        split at k1
        · rfl
        · cases k1
      subst k1
      unfold cloB at k2
      split at k2
      · rename_i n cc0
        obtain ⟨c1, c2⟩ := He.ba k2
        have c1 := of_decide_eq_true c1
        subst c1
        unfold celB at c2
        split at c2
        · rename_i cl cld C' csl hcc
          have c2 := of_decide_eq_true c2
          subst c2
          unfold cdeB at k3
          split at k3
          · rename_i cda
            obtain ⟨c3, c4⟩ := He.ba k3
            unfold codB at c4
            split at c4
            · rename_i ccl cdd vs ccs hcode
              split at c4
              · rename_i ff tf hv
                have c4 := of_decide_eq_true c4
                subst c4
                exact ⟨_, ⟨⟨oc, od, a9, b1, b2, b3, cda, b5, osl, _, cl, cld, csl, ccl, cdd, vs, ccs, _, tf, rfl, q, c3, hcc, hcode, hv, by rw [hP]; exact beq_self_eq_true _⟩, oex_of h1, of_decide_eq_true h2, of_decide_eq_true h3, of_decide_eq_true h4, He.eqO_ok h5, htop⟩, rfl⟩
              · cases c4
            · cases c4
          · cases k3
        · cases c2
      · cases k2
    | _ => cases h
/-! ### the hook with such makings -/
def obsX (file : Str) (ex : List Tst) (fn : List Df) (xs : List Xf) (K : PySem.W.Frag) : He.AlD := ((ex.all fun e => e K) && ((fn.all fun d => d.fine K) && xs.all fun d => supB file d K), (fn.map fun d => fnAt K (d.at_ K)) ++ xs.map fun d => fnAtX K (iniA K d.cls))
def SaysX (file : Str) (ex : List Tst) (fn : List Df) (xs : List Xf) (K : PySem.W.Frag) : Prop := obsX file ex fn xs K = (true, fn.map Df.val ++ xs.map Xf.val)
/-- a table of a code object lies in no fragment: it grows -/
def noTabO : Option Obj → Bool
  | some ⟨.none, _, .fields vs, _⟩ => !vs.isEmpty
  | _ => true
/-- the addresses that are not in the set s yet (bits of a number), and the set with them -/
def newX : List Addr → Nat → List Addr × Nat
  | [], s => ([], s)
  | a :: l, s => match Nat.testBit s a with
    | true => newX l s
    | false => match newX l (s ||| (1 <<< a)) with
      | (r, s2) => (a :: r, s2)
/-- n steps further from fr -/
def growX (g : Addr → Option Obj) : Nat → List Addr → Nat → List Addr
  | 0, _, _ => []
  | n + 1, fr, s => match newX (fr.flatMap fun a => match g a with
      | some o => He.refsD o
      | none => []) s with
    | (r, s2) => r ++ growX g n r s2
def asX (g : Addr → Option Obj) (n : Nat) : List Addr := (mainGlobals :: growX g n [mainGlobals] (1 <<< mainGlobals) ++ [cStatics]).filter fun a => noTabO (g a)
def obsRX (n : Nat) (file : Str) (ex : List Tst) (fn : List Df) (xs : List Xf) (g : Addr → Option Obj) : He.AlD := obsX file ex fn xs (He.frG g (asX g n))
def hookX (n : Nat) (file : Str) (ex : List Tst) (fn : List Df) (xs : List Xf) : PySem.W.Hook where
  α := He.AlD
  obs := fun s => obsRX n file ex fn xs s.heap.get?
  val := fun _ => (true, fn.map Df.val ++ xs.map Xf.val)
  says := fun _ h => ∃ K : PySem.W.Frag, K.In h ∧ SaysX file ex fn xs K
  of := fun _ _ e => ⟨_, He.frG_in, e⟩
  keeps := fun _ _ _ ⟨K, hK, c⟩ k => ⟨K, PySem.W.Frag.In.keeps hK k, c⟩
theorem obsRX_eq {n : Nat} {file : Str} {ex : List Tst} {fn : List Df} {xs : List Xf} {g : Addr → Option Obj} {s : Shared} (h : ∀ a, g a = s.heap.get? a) : obsRX n file ex fn xs g = (hookX n file ex fn xs).obs s := by
  have e : g = s.heap.get? := funext h
  subst e
  rfl
section
variable {file : Str} {ex : List Tst} {fn : List Df} {xs : List Xf} {K : PySem.W.Frag}
theorem SaysX.fact (c : SaysX file ex fn xs K) (i : Nat) {e : Tst} (h : ex[i]? = some e := by rfl) : e K = true :=
  List.all_eq_true.mp (He.ba (show ((ex.all fun e => e K) && ((fn.all fun d => d.fine K) && xs.all fun d => supB file d K)) = true from congrArg (fun z : He.AlD => z.1) c)).1 e (List.mem_of_getElem? h)
theorem app_maps {β : Type} {a a' b b' : List β} (h : a ++ b = a' ++ b') (hl : a.length = a'.length) : a = a' ∧ b = b' := List.append_inj h hl
theorem SaysX.def_ (c : SaysX file ex fn xs K) (i : Nat) {d : Df} (h : fn[i]? = some d := by rfl) : ∃ fd, FunD K d.name d.qual d.params d.body d.scope [] (d.kws K) (d.at_ K) fd := by
  have f1 := (He.ba (He.ba (show ((ex.all fun e => e K) && ((fn.all fun d => d.fine K) && xs.all fun d => supB file d K)) = true from congrArg (fun z : He.AlD => z.1) c)).2).1
  have f2 : (fn.map fun d => fnAt K (d.at_ K)) ++ (xs.map fun d => fnAtX K (iniA K d.cls)) = fn.map Df.val ++ xs.map Xf.val := congrArg (fun z : He.AlD => z.2) c
  have f2 := (app_maps f2 (by rw [List.length_map, List.length_map])).1
  have f3 : (fn.map fun d => fnAt K (d.at_ K))[i]? = (fn.map Df.val)[i]? := by rw [f2]
  rw [List.getElem?_map, List.getElem?_map, h] at f3
  exact Df.funD (Option.some.inj f3) (List.all_eq_true.mp f1 d (List.mem_of_getElem? h))
theorem SaysX.xf {P : Program} (c : SaysX file ex fn xs K) (hP : P.main.file = file) (htop : (P.main.scope.names.lookup ("super" : Str)).isSome = false) (i : Nat) {d : Xf} (h : xs[i]? = some d := by rfl) : XfOk P K d := by
  have f1 := (He.ba (He.ba (show ((ex.all fun e => e K) && ((fn.all fun d => d.fine K) && xs.all fun d => supB file d K)) = true from congrArg (fun z : He.AlD => z.1) c)).2).2
  have f2 : (fn.map fun d => fnAt K (d.at_ K)) ++ (xs.map fun d => fnAtX K (iniA K d.cls)) = fn.map Df.val ++ xs.map Xf.val := congrArg (fun z : He.AlD => z.2) c
  have f2 := (app_maps f2 (by rw [List.length_map, List.length_map])).2
  have f3 : (xs.map fun d => fnAtX K (iniA K d.cls))[i]? = (xs.map Xf.val)[i]? := by rw [f2]
  rw [List.getElem?_map, List.getElem?_map, h] at f3
  exact xf_of hP htop (Option.some.inj f3) (List.all_eq_true.mp f1 d (List.mem_of_getElem? h))
end
/-! ### facts of exceptions, tables -/
def x0B (c : Str) : Tst := fun K => PySem.W.excIn K (He.ga K c) [.type "ValueError", .type "Exception", .type "BaseException", .type "object"] "ValueError.__new__" && (PySem.W.keepIn K (.ref (He.ga K c)) && (decide (PySem.W.subIn K (.ref (He.ga K c)) (.type "BaseException") = some true) && decide (PySem.W.typeIn K (.ref (He.ga K c)) = some (.type "type"))))
theorem x0_of {X : Cx} {x c : Str} (h : x0B c X.K = true) (hm : X.mg x = some (.ref (He.ga X.K c))) : XMk0 X x c := by
  obtain ⟨h1, h⟩ := He.ba h
  obtain ⟨h2, h⟩ := He.ba h
  obtain ⟨h3, h4⟩ := He.ba h
  exact ⟨h1, h2, of_decide_eq_true h3, of_decide_eq_true h4, hm⟩
def excB (c : Str) : Tst := fun K => He.eqO (PySem.W.findIn K (.ref (He.ga K c)) "__getattribute__") (some (some (.builtin "BaseException.__getattribute__"))) && (He.eqO (PySem.W.findIn K (.ref (He.ga K c)) "__getattr__") (some none) && (decide (PySem.W.subIn K (.ref (He.ga K c)) (.type "BaseException") = some true) &&
  (PySem.W.hasDictIn K (He.ga K c) && (He.eqO (PySem.W.findIn K (.ref (He.ga K c)) "__class__") (some (some (.builtin "object.__class__"))) && (He.eqO (PySem.W.specialIn K (.builtin "object.__class__") "__get__") (some (some (.builtin "getset_descriptor.__get__"))) &&
  (decide (PySem.W.takesIn K (.builtin "object.__class__") = some true) && decide (PySem.W.mroIn K (He.ga K c) (.type "object") = some true)))))))
theorem exc_of {K : PySem.W.Frag} {c : Str} (h : excB c K = true) : ExcC K (He.ga K c) := by
  obtain ⟨h1, h⟩ := He.ba h
  obtain ⟨h2, h⟩ := He.ba h
  obtain ⟨h3, h⟩ := He.ba h
  obtain ⟨h4, h⟩ := He.ba h
  obtain ⟨h5, h⟩ := He.ba h
  obtain ⟨h6, h⟩ := He.ba h
  obtain ⟨h7, h8⟩ := He.ba h
  exact ⟨He.eqO_ok h1, He.eqO_ok h2, of_decide_eq_true h3, h4, He.eqO_ok h5, He.eqO_ok h6, of_decide_eq_true h7, of_decide_eq_true h8⟩
theorem xfc_of {K : PySem.W.Frag} {c : Str} (h : ExcC K (He.ga K c)) : XfC K (He.ga K c) := ⟨h.hg, h.hk, h.hs, h.hd⟩
/-- isinstance of exceptions by a table -/
def isxB (cs : List Str) (tab : List (Str × Bool)) : Tst := fun K => tab.all fun p => decide (PySem.W.kitAny K (.ref (He.ga K p.1)) (cs.map fun c => .ref (He.ga K c)) = some p.2) && (match cs with
  | [d] => decide (PySem.W.kitOne K (.ref (He.ga K p.1)) (.ref (He.ga K d)) = some p.2)
  | _ => true)
theorem lookup_mem {tab : List (Str × Bool)} {c : Str} {b : Bool} (h : tab.lookup c = some b) : (c, b) ∈ tab := PySem.mem_of_lookup h
theorem isx_of {K : PySem.W.Frag} {cs : List Str} {tab : List (Str × Bool)} (h : isxB cs tab K = true) (hc : ∀ p ∈ tab, ExcC K (He.ga K p.1)) : IsXT K cs tab := fun c b e => by
  have q := lookup_mem e
  obtain ⟨h1, h2⟩ := He.ba (List.all_eq_true.mp h (c, b) q)
  refine ⟨hc (c, b) q, of_decide_eq_true h1, fun d hd => ?_⟩
  subst hd
  exact of_decide_eq_true h2
def catB (y : Str) (tab : List (Str × Bool)) : Tst := fun K => tab.all fun p => decide (PySem.W.exmOne K (.ref (He.ga K p.1)) (.ref (He.ga K y)) = some p.2)
theorem cat_of {K : PySem.W.Frag} {y : Str} {tab : List (Str × Bool)} (h : catB y tab K = true) : ∀ c b, tab.lookup c = some b → PySem.W.exmOne K (.ref (He.ga K c)) (.ref (He.ga K y)) = some b := fun c b e =>
  of_decide_eq_true (List.all_eq_true.mp h (c, b) (lookup_mem e))
def tabUB : Tst := fun K => (tabsK K).all fun p => (tabsK K).all fun q => !decide (p.1 = q.1) || decide (p.2 = q.2)
theorem tabU_of {K : PySem.W.Frag} (h : tabUB K = true) : ∀ p ∈ tabsK K, ∀ q ∈ tabsK K, p.1 = q.1 → p.2 = q.2 := fun p hp q hq e => by
  have z := List.all_eq_true.mp (List.all_eq_true.mp h p hp) q hq
  rcases Bool.or_eq_true_iff.mp z with y | y
  · rw [decide_eq_true e] at y
    cases y
  · exact of_decide_eq_true y
/-- the def of the name x at f makes lambdas: its code and table -/
def lamAtB (x : Str) : Tst := fun K => match PySem.W.tabIn K x, K.lookup (He.ga K x) with
  | some (c, _), some ⟨_, _, .func fd, _⟩ => (match fd.code with
    | .ref c' => decide (c' = c)
    | _ => false)
  | _, _ => false
theorem lamAt_of {K : PySem.W.Frag} {x : Str} (h : lamAtB x K = true) : ∃ c P, PySem.W.tabIn K x = some (c, P) ∧ ∀ oc od fd osl, K.lookup (He.ga K x) = some ⟨oc, od, .func fd, osl⟩ → fd.code = .ref c := by
  unfold lamAtB at h
  split at h
  · rename_i c Pp oc od fd osl h1 h2
    refine ⟨c, Pp, h1, fun oc' od' fd' osl' e => ?_⟩
    rw [h2] at e
    cases e
    split at h
    · rename_i c' hc
      rw [hc, of_decide_eq_true h]
    · cases h
  · cases h
/-! ### defs that make lambdas -/
theorem fng_ofL {P : Program} {w : World} {K : PySem.W.Frag} {mg : Str → Option Value} {base : Heap} {x qual : Str} {params : Arguments} {body : List Stmt} {scope : Scope} {dvs : List V} {kws : List (Str × V)} {f : Addr} {fd : FuncData} {N ps : List Str} {k : Nat} {g : Ss} {kp : Bool} {c : Addr}
    (F : FunD K x qual params body scope dvs kws f fd) (S : FnScope N ps scope) (hbi : Binds K fd ps []) (hcode : fd.code = .ref c)
    (hb : ∀ (A : Around) (outer : List Env) (s : Shared) (H : Hp) (E : XK), Ctx P w K mg base N scope k (cxOf (L2.CX P w) P w K mg base N qual scope f (.ref c) A outer s H E) E → (cxOf (L2.CX P w) P w K mg base N qual scope f (.ref c) A outer s H E).A.guards = some [] →
      ∃ ts, ASs K (cxOf (L2.CX P w) P w K mg base N qual scope f (.ref c) A outer s H E) E body ts g) :
    FnG P w K mg base (k + 1) f (bodyM kp ps.length N g) := by
  obtain ⟨oc, od, dV, kV, doc, pm, an, cdv, ct, osl, rfl, lk, hcd, _, _⟩ := F.ex
  have hcode : cdv = .ref c := hcode
  subst hcode
  intro A outer s H us vs Q E hr hgd e0 r h
  have KX : K.In s.heap := e0.mod.kin.keeps fun b o e => (e0.bs b o e).1
  obtain ⟨G, as, ws, ds, W, rs, Pt⟩ := h
  unfold bodyM at Pt
  split at Pt
  · rename_i hl
    refine StX.run_bnd lk hcd S hr e0 (G := fun xs H2 => xs = vs ∧ H2 = H) (fun A' Ex Q' hk => ?_) fun s2 H2 xs ⟨ex, eH⟩ hr' => ?_
    · have z := hbi s us KX (by rw [List.append_nil, ← r.length, ← rs.len]; exact hl)
      rw [List.append_nil] at z
      exact z _ _ _ _ (hk s H vs us e0 Un.refl rfl (fun _ _ z => z) r (by rw [← rs.len]; exact hl) ⟨rfl, rfl⟩)
    · subst ex eH
      have tk : Takes (cxOf (L2.CX P w) P w K mg base N qual scope f (.ref c) A outer s2 H2 E) fun cls d _ H => E cls d H := takes_of rfl rfl rfl rfl
      obtain ⟨ts, hT⟩ := hb A outer s2 H2 E ⟨hr', tk, passes_call tk fun _ _ _ _ z => z, PassesOwn.leaving⟩ hgd
      exact ⟨ts, hT.pe, hT.ev _ ws G H2 as _ _ W (start_rep rs) (fin_post W Pt)⟩
  · exact False.elim Pt
/-- the context of a lambda's body -/
theorem ctx_lam {X : Cx} {A : Around} {outer : List Env} {s : Shared} {H : Hp} {E : XK} {scope : Scope} {f c' : Addr} {k : Nat} {N : List Str} (hr : Room k (A.deeper (lamEnv X scope s.heap.objs.size f c'))) : Ctx X.prog X.w X.K X.mg X.base N scope k (lamCx X A outer s H E scope f c') E :=
  have tk : Takes (lamCx X A outer s H E scope f c') fun cls d _ H => E cls d H := takes_of rfl rfl rfl rfl
  ⟨hr, tk, passes_call tk fun _ _ _ _ z => z, PassesOwn.leaving⟩
end RL
set_option Elab.async false
set_option linter.all false
set_option maxRecDepth 100000
set_option maxHeartbeats 4000000
/-! RL26: xs.pop(), xs * n. -/
namespace RL
open PySem PySem.Spec PyProof.Rows L2
section
variable {K : PySem.W.Frag} {X : Cx} {E : XK} {o : Expr} {to : TE} {so : Se} {r : V → List V → Hp → VK → Prop} {f : Fm} {name : Str} {id T : String} {apos pos : Pos}
theorem ae_bm0 (pa : PlainAttrs T) (slot : Slot T name id) (hty : typeOf (.builtin id) = pure (.type "method_descriptor")) (hm : MtR X id r) (h : MeD K T r f) (ho : AE K X E o to so)
    (hbase : attributeBase o name X.env (eval o X.env) = eval o X.env := by rfl) (hline : (apos.endLine == pos.line) = true := by rfl) :
    AE K X E (.Call (.Attribute o name apos) [] [] pos) (tBM0 K T r to) (sMB T f so sNil) := by
  have e0 := ho.hK
  subst e0
  refine ⟨rfl, pe_bm0 pa slot hty hm ho.pe hbase hline, fun ρ ws G H as σ Q W S P => ho.ev ρ ws G H as σ _ W S (Post.bind P fun d ws1 x G1 H1 as1 r1 W1 rx P1 => ?_)⟩
  split at P1
  · rename_i ht
    refine ⟨isTy_ok W1 rx ht, ?_⟩
    have P1 : Post X.K E (Rep X.K) G1 H1 as1 (match f d [] ws1 with
      | some p => R.ok p.1 p.2
      | none => .bad) Q := P1
    split at P1
    · rename_i p hp
      exact h ws1 G1 H1 as1 x [] d [] p.1 p.2 Q W1 rx Reps.nil hp fun v G' H' as' q w rep => P1 v G' H' as' q w rep
    · exact False.elim P1
  · exact False.elim P1
end
section
variable {K : PySem.W.Frag}
def fmPop0 : Fm := fun d ds ws => match d, ds with
  | .cell n, [] => (match ws[n]? with
    | some (.lst l) => l[l.length - 1]?.map fun y => (y, ws.set n (.lst l.dropLast))
    | _ => none)
  | _, _ => none
theorem Reps.dropLast {as : List Addr} {G : Hp} {l : List D} {vs : List V} (h : Reps K as G l vs) : Reps K as G l.dropLast vs.dropLast := by
  induction l generalizing vs with
  | nil =>
    rw [h.unnil]
    exact Reps.nil
  | cons d ds ih =>
    obtain ⟨v, r, e, h1, h2⟩ := h.uncons
    subst e
    cases ds with
    | nil =>
      rw [h2.unnil]
      exact Reps.nil
    | cons d' ds' =>
      obtain ⟨v', r', e', h3, h4⟩ := h2.uncons
      subst e'
      exact Reps.cons h1 (ih h2)
theorem md_pop0 : MeD K "list" rPop fmPop0 := by
  intro ws G H as x xs d ds y ws' Q W rx rs e k
  unfold fmPop0 at e
  split at e
  · rename_i n
    split at e
    · rename_i l q
      obtain ⟨u, h1, h2⟩ := Option.map_eq_some_iff.mp e
      cases h2
      obtain ⟨a, vs, e1, e2, e3, e4⟩ := cell_lst W q rx
      obtain ⟨v, g1, g2⟩ := e4.get h1
      refine ⟨a, vs, v, e1, rs.unnil, e3, by rw [← e4.len]; exact g1, ?_⟩
      exact k v G _ as (Rch.put (List.mem_of_getElem? e2)) (W.put e2 q (fun z => by cases z) ⟨_, rfl, e4.dropLast⟩) g2
    · cases e
  · cases e
/-- xs * n, a new list that is never written -/
def fRep : List Ce → D → D → Option D := fun ws x y => match y with
  | .int k => (lstOf ws x).bind fun l => if 0 ≤ k ∧ k ≤ 1000 ∧ l.length ≤ 100 then some (.lst (List.replicate k.toNat l).flatten) else none
  | _ => none
theorem Reps.rep {as : List Addr} {G : Hp} {l : List D} {vs : List V} (h : Reps K as G l vs) : ∀ k : Nat, Reps K as G (List.replicate k l).flatten (List.replicate k vs).flatten
  | 0 => Reps.nil
  | k + 1 => by
    rw [List.replicate_succ, List.replicate_succ, List.flatten_cons, List.flatten_cons]
    exact h.app (Reps.rep h k)
theorem od_rep : OpD K rRep fRep := by
  intro ws G H as x y d e z Q W rx ry ef k
  unfold fRep at ef
  split at ef
  · rename_i n
    obtain ⟨l, h1, h2⟩ := Option.bind_eq_some_iff.mp ef
    split at h2
    · rename_i hk
      cases h2
      obtain ⟨a, vs, e1, e2, e3⟩ := lst_rep W h1 rx
      simp only [Rep] at ry
      have hl : vs.length * n.toNat ≤ 100 * 1000 := Nat.mul_le_mul (by rw [← e3.len]; exact hk.2.2) (by omega)
      refine ⟨a, n, vs, e1, ry, e2, by omega, by omega, small5 (by omega), fun p hp => ?_⟩
      have R := Rch.new (as := as) (o := HO.lst (List.replicate n.toNat vs).flatten) W.le hp
      refine k (.ref p) _ _ as R (W.new hp) ?_
      simp only [Rep]
      exact ⟨p, _, rfl, upd_same, (e3.rep _).up (List.prefix_refl _) R.up⟩
    · cases h2
  · cases ef
end
end RL
set_option Elab.async false
set_option linter.all false
set_option maxRecDepth 100000
set_option maxHeartbeats 4000000
/-! RL27: plain values of bounded depth; the end of a def by an exception. -/
namespace RL
open PySem L2
/-- a plain value of depth k at most -/
def Sh (d : D) (k : Nat) : Prop := ∃ p, toPy0 d = some p ∧ p.canLay0 = true ∧ p.depth ≤ k
def ShL (l : List D) (k : Nat) : Prop := ∃ ps, toPys0 l = some ps ∧ PyData.canLayAll0 ps = true ∧ PyData.depthAll ps ≤ k ∧ ps.length = l.length
theorem Sh.int (i : Int) (k : Nat) : Sh (.int i) k := ⟨_, rfl, rfl, Nat.zero_le _⟩
theorem Sh.bl (b : Bool) (k : Nat) : Sh (.bl b) k := ⟨_, rfl, rfl, Nat.zero_le _⟩
theorem Sh.non (k : Nat) : Sh .non k := ⟨_, rfl, rfl, Nat.zero_le _⟩
theorem Sh.str {s : Str} (h : PyData.strOk s = true) (k : Nat) : Sh (.str s) k := ⟨_, rfl, h, Nat.zero_le _⟩
theorem ShL.nil (k : Nat) : ShL [] k := ⟨[], rfl, rfl, Nat.zero_le _, rfl⟩
theorem ShL.cons {d : D} {l : List D} {k : Nat} (h1 : Sh d k) (h2 : ShL l k) : ShL (d :: l) k := by
  obtain ⟨p, a1, a2, a3⟩ := h1
  obtain ⟨ps, b1, b2, b3, b4⟩ := h2
  refine ⟨p :: ps, by simp [toPys0, a1, b1], by simp [PyData.canLayAll0, a2, b2], ?_, by simp [b4]⟩
  simp only [PyData.depthAll]
  omega
theorem ShL.map {α : Type} {f : α → D} {k : Nat} : ∀ {l : List α}, (∀ a ∈ l, Sh (f a) k) → ShL (l.map f) k
  | [], _ => ShL.nil k
  | a :: l, h => ShL.cons (h a (by simp)) (ShL.map fun b hb => h b (List.mem_cons_of_mem _ hb))
theorem ShL.app {k : Nat} : ∀ {l m : List D}, ShL l k → ShL m k → ShL (l ++ m) k
  | [], m, _, h => h
  | a :: l, m, h1, h2 => by
    obtain ⟨ps, b1, b2, b3, b4⟩ := h1
    simp only [toPys0] at b1
    cases e1 : toPy0 a with
    | none => rw [e1] at b1; cases b1
    | some p =>
      cases e2 : toPys0 l with
      | none => rw [e1, e2] at b1; cases b1
      | some qs =>
        rw [e1, e2] at b1
        cases b1
        simp only [PyData.canLayAll0, Bool.and_eq_true] at b2
        simp only [PyData.depthAll] at b3
        exact ShL.cons ⟨p, e1, b2.1, by omega⟩ (ShL.app ⟨qs, e2, b2.2, by omega, by simpa using b4⟩ h2)
theorem Sh.tup {l : List D} {k : Nat} (h : ShL l k) : Sh (.tup l) (k + 1) := by
  obtain ⟨ps, b1, b2, b3, b4⟩ := h
  refine ⟨.tuple ps, by simp [toPy0, b1], by simp [PyData.canLay0, b2], ?_⟩
  simp only [PyData.depth]
  omega
theorem Sh.lst {l : List D} {k : Nat} (h : ShL l k) : Sh (.lst l) (k + 1) := by
  obtain ⟨ps, b1, b2, b3, b4⟩ := h
  refine ⟨.list ps, by simp [toPy0, b1], by simp [PyData.canLay0, b2], ?_⟩
  simp only [PyData.depth]
  omega
theorem shaped_of {p : PyData} {k : Nat} (h1 : p.canLay0 = true) (h2 : p.depth ≤ k) (hk : k ≤ 64) : SeqAt.shaped p = true := by
  unfold SeqAt.shaped
  rw [h1, Bool.true_and]
  exact decide_eq_true (by omega)
theorem eqv_nil (ps : List PyData) : PyData.eqv (.list ps) (.list []) = decide (ps = []) := by
  cases ps <;> rfl
/-- is the tracked list empty -/
theorem eq_nil_cell {ws : List Ce} {n : Nat} {l : List D} {k : Nat} (h : ws[n]? = some (.lst l)) (hs : ShL l k) (hk : k ≤ 63) : fEqD ws (.cell n) (.lst []) = some (.bl (decide (l = []))) := by
  obtain ⟨ps, b1, b2, b3, b4⟩ := hs
  have s1 : SeqAt.shaped (.list ps) = true := shaped_of (k := k + 1) (by simp [PyData.canLay0, b2]) (by simp only [PyData.depth]; omega) (by omega)
  have s2 : SeqAt.shaped (.list []) = true := by decide
  have e : decide (ps = []) = decide (l = []) := by
    apply decide_eq_decide.mpr
    rw [← List.length_eq_zero_iff, ← List.length_eq_zero_iff, b4]
  simp only [fEqD, toPy, toPy0, toPys0, h, b1, Option.map_some, Option.bind_some, s1, s2, Bool.and_self, if_true, eqv_nil, e]
mutual
theorem eqv_self : ∀ p : PyData, p.canLay0 = true → PyData.eqv p p = true
  | .none, _ => by simp [PyData.eqv]
  | .bool b, _ => by simp [PyData.eqv]
  | .int i, _ => by simp [PyData.eqv]
  | .str s, _ => by simp [PyData.eqv]
  | .list ps, h => by simpa [PyData.eqv] using eqvAll_self ps h
  | .tuple ps, h => by simpa [PyData.eqv] using eqvAll_self ps h
  | .dict _, h => by cases h
theorem eqvAll_self : ∀ ps : List PyData, PyData.canLayAll0 ps = true → PyData.eqvAll ps ps = true
  | [], _ => by simp [PyData.eqvAll]
  | p :: ps, h => by
    simp only [PyData.canLayAll0, Bool.and_eq_true] at h
    simp [PyData.eqvAll, eqv_self p h.1, eqvAll_self ps h.2]
end
theorem Sh.shaped {d : D} {k : Nat} (h : Sh d k) (hk : k ≤ 64) : ∃ p, toPy0 d = some p ∧ SeqAt.shaped p = true ∧ p.canLay0 = true := by
  obtain ⟨p, a1, a2, a3⟩ := h
  exact ⟨p, a1, shaped_of a2 a3 hk, a2⟩
theorem toPy_D {ws : List Ce} {d : D} {p : PyData} (h : toPy0 d = some p) : toPy ws d = some p := by
  cases d <;> first | exact h | cases h
/-- equal to itself -/
theorem eq_self_D {ws : List Ce} {d : D} {k : Nat} (h : Sh d k) (hk : k ≤ 64) : fEqD ws d d = some (.bl true) := by
  obtain ⟨p, a1, a2, a3⟩ := h.shaped hk
  simp only [fEqD, toPy_D a1, Option.bind_some, a2, Bool.and_self, if_true, eqv_self p a3]
/-- the tracked list is the written one -/
theorem eq_cell_self {ws : List Ce} {n : Nat} {l : List D} {k : Nat} (hn : ws[n]? = some (.lst l)) (h : ShL l k) (hk : k ≤ 63) : fEqD ws (.cell n) (.lst l) = some (.bl true) := by
  have h2 := Sh.lst h
  obtain ⟨p, a1, a2, a3⟩ := h2.shaped (by omega)
  have a4 : toPy ws (.cell n) = some p := by
    simp only [toPy, hn]
    exact a1
  simp only [fEqD, a4, toPy_D a1, Option.bind_some, a2, Bool.and_self, if_true, eqv_self p a3]
/-! ### the end of a def by an exception -/
theorem fin_exL {ws ws' : List Ce} {e : Ex} (h : ws'.length = ws.length) : fin false ws (.ex e ws') = .ex e ws' := by
  simp [fin, flR, frzR, h, R.bind]
theorem cut_appX (ws xs : List Ce) : cutOk ws (ws ++ xs) := fun i hi => .inl (by rw [List.getElem?_append_left hi])
theorem fin_exA {ws xs : List Ce} {e : Ex} (h : belows ws.length e.l = true) : fin false ws (.ex e (ws ++ xs)) = .ex e ws := by
  by_cases h0 : xs = []
  · subst h0
    rw [List.append_nil]
    exact fin_exL rfl
  · have : (ws ++ xs).length ≠ ws.length := by
      have := List.length_pos_iff.mpr h0
      rw [List.length_append]
      omega
    simp only [RL.fin, flR, R.bind, frzR, this, if_false, h, cut_appX, and_self, if_true, List.take_left, Bool.false_eq_true]
end RL
set_option Elab.async false
set_option linter.all false
set_option maxRecDepth 100000
/-! what each def of the text does, printed by gen -/
namespace K81
open RL PySem L2
def tab_Plan : List (Tn × Bool) := [(.b "NoneType", false), (.b "bool", false), (.b "int", false), (.b "str", false), (.b "tuple", false), (.b "list", false), (.b "dict", false), (.c "Bench", false), (.c "Plan", true), (.c "Tick", false)]
def tab_Tick : List (Tn × Bool) := [(.b "NoneType", false), (.b "bool", false), (.b "int", false), (.b "str", false), (.b "tuple", false), (.b "list", false), (.b "dict", false), (.c "Bench", false), (.c "Plan", false), (.c "Tick", true)]
def tab_bool : List (Tn × Bool) := [(.b "NoneType", false), (.b "bool", true), (.b "int", false), (.b "str", false), (.b "tuple", false), (.b "list", false), (.b "dict", false), (.c "Bench", false), (.c "Plan", false), (.c "Tick", false)]
def tab_int : List (Tn × Bool) := [(.b "NoneType", false), (.b "bool", true), (.b "int", true), (.b "str", false), (.b "tuple", false), (.b "list", false), (.b "dict", false), (.c "Bench", false), (.c "Plan", false), (.c "Tick", false)]
def tab_str : List (Tn × Bool) := [(.b "NoneType", false), (.b "bool", false), (.b "int", false), (.b "str", true), (.b "tuple", false), (.b "list", false), (.b "dict", false), (.c "Bench", false), (.c "Plan", false), (.c "Tick", false)]
def tab_tuple : List (Tn × Bool) := [(.b "NoneType", false), (.b "bool", false), (.b "int", false), (.b "str", false), (.b "tuple", true), (.b "list", false), (.b "dict", false), (.c "Bench", false), (.c "Plan", false), (.c "Tick", false)]
def xcl_BadBench_NoPhase : List Str := ["BadBench", "NoPhase"]
def xtab_BadBench_NoPhase : List (Str × Bool) := [("BadBench", true), ("BadCount", false), ("BadPlan", false), ("BadText", false), ("BadTick", false), ("NoPhase", true), ("Nothing", false), ("TooMany", false)]
def xcl_Nothing : List Str := ["Nothing"]
def xtab_Nothing : List (Str × Bool) := [("BadBench", false), ("BadCount", false), ("BadPlan", false), ("BadText", false), ("BadTick", false), ("NoPhase", false), ("Nothing", true), ("TooMany", false)]
def xcat : List (Str × Bool) := [("BadBench", true), ("BadCount", true), ("BadPlan", true), ("BadText", true), ("BadTick", true), ("NoPhase", true), ("Nothing", true), ("TooMany", true)]
def N_need_plan : List Str := ["value"]
def g_need_plan : Ss := (sIfS (sNot (sB (sIsi tab_Plan (sVar 0)))) (sRaise "BadBench" ["part"] (sCons (sC (.str "plan")) sNil)) sNext)
def m_need_plan : Mf := bodyM false 1 N_need_plan g_need_plan
def N_Bench___init__ : List Str := ["self", "plan"]
def g_Bench___init__ : Ss := (sSeq (sExpr (sCall m_need_plan (sCons (sVar 1) sNil)))
    (sSeq (sNewF "Bench" "own_now" (sVar 0) (sVar 1))
    (sNewF "Bench" "past" (sVar 0) (sLstM sNil))))
def m_Bench___init__ : Mf := bodyM true 2 N_Bench___init__ g_Bench___init__
def N_Bench___len__ : List Str := ["self"]
def g_Bench___len__ : Ss := (sRet (sCB (fb1 gLen) (sCons (sAttr "Bench" "past" 1 (sVar 0)) sNil)))
def m_Bench___len__ : Mf := bodyM false 1 N_Bench___len__ g_Bench___len__
def N_Bench_now : List Str := ["self"]
def g_Bench_now : Ss := (sRet (sAttr "Bench" "own_now" 0 (sVar 0)))
def m_Bench_now : Mf := bodyM false 1 N_Bench_now g_Bench_now
def N_sums_text : List Str := ["sums", "age", "ages"]
def g_sums_text : Ss := (sSeq (sIfS (sB (sOp fEqS (sCB (fb1 gLen) (sCons (sVar 0) sNil)) (sC (.int 0)))) (sRet (sC (.str "-"))) sNext)
    (sRet (sMB "str" fmJoin (sC (.str " , ")) (sCons (sLc [2] (sItT (sVar 0)) (tgName 2) sYes (sMB "str" fmJoin (sC (.str " ")) (sCons (sLc [1] (sItT (sVar 2)) (tgName 1) sYes (sCB (fb1 gStr) (sCons (sVar 1) sNil))) sNil))) sNil))))
def m_sums_text : Mf := bodyM false 1 N_sums_text g_sums_text
def N_Tick___str__ : List Str := ["self"]
def g_Tick___str__ : Ss := (sRet (sJoined [(sFmt (sIf (sB (sAttr "Tick" "mute" 1 (sVar 0))) (sC (.str "mute ")) (sC (.str "")))), (sFmt (sCall m_sums_text (sCons (sAttr "Tick" "sums" 0 (sVar 0)) sNil)))]))
def m_Tick___str__ : Mf := bodyM false 1 N_Tick___str__ g_Tick___str__
def N_Plan___str__ : List Str := ["self", "tick"]
def g_Plan___str__ : Ss := (sRet (sMB "str" fmJoin (sC (.str " / ")) (sCons (sLc [1] (sItT (sAttr "Plan" "own_ticks" 0 (sVar 0))) (tgName 1) sYes (sStrO "Tick" m_Tick___str__ (sCons (sVar 1) sNil))) sNil)))
def m_Plan___str__ : Mf := bodyM false 1 N_Plan___str__ g_Plan___str__
def N_Plan___init__ : List Str := ["self", "ticks", "at", "tick"]
abbrev b_Plan___init___0 : Ss := (sIfS (sNot (sB (sIsi tab_Tick (sVar 3)))) (sRaise "BadPlan" ["part"] (sCons (sVar 2) sNil)) sNext)
def g_Plan___init__ : Ss := (sSeq (sFor (sItET (sCons (sVar 1) sNil)) (tgTup 2 (tgCons (tgName 2) (tgCons (tgName 3) tgNil))) b_Plan___init___0)
    (sSeq (sIfS (sB (sOp fEqS (sCB (fb1 gLen) (sCons (sVar 1) sNil)) (sC (.int 0)))) (sRaise "BadPlan" ["part"] (sCons (sC (.str "ticks")) sNil)) sNext)
    (sSeq (sIfS (sB (sOp fGt (sCB (fb1 gLen) (sCons (sVar 1) sNil)) (sC (.int 6)))) (sRaise "TooMany" ["what", "most"] (sCons (sC (.str "phases")) (sCons (sC (.int 6)) sNil))) sNext)
    (sNewF "Plan" "own_ticks" (sVar 0) (sCB (fb1 gTuple) (sCons (sVar 1) sNil))))))
def m_Plan___init__ : Mf := starM false 1 0 N_Plan___init__ g_Plan___init__
def N_is_integer : List Str := ["value"]
def g_is_integer : Ss := (sRet (sAnd (sIsi tab_int (sVar 0)) (sNotV (sIsi tab_bool (sVar 0)))))
def m_is_integer : Mf := bodyM false 1 N_is_integer g_is_integer
def N_is_within : List Str := ["value", "least", "most"]
def g_is_within : Ss := (sRet (sAnd (sCall m_is_integer (sCons (sVar 0) sNil)) (sChain fLe fLe (sVar 1) (sVar 0) (sVar 2))))
def m_is_within : Mf := bodyM false 3 N_is_within g_is_within
def N_is_age : List Str := ["value"]
def g_is_age : Ss := (sRet (sCall m_is_within (sCons (sVar 0) (sCons (sC (.int 0)) (sCons (sC (.int 8)) sNil)))))
def m_is_age : Mf := bodyM false 1 N_is_age g_is_age
def N_is_sum : List Str := ["value", "age", "at"]
def g_is_sum : Ss := (sSeq (sIfS (sOrT (sNot (sB (sIsi tab_tuple (sVar 0)))) (sOrT (sB (sOp fEqS (sCB (fb1 gLen) (sCons (sVar 0) sNil)) (sC (.int 0)))) (sNot (sB (sCB (fb1 gAll) (sCons (sLc [1] (sItT (sVar 0)) (tgName 1) sYes (sCall m_is_age (sCons (sVar 1) sNil))) sNil)))))) (sRet (sC (.bl false))) sNext)
    (sRet (sCB (fb1 gAll) (sCons (sLc [2] (sItR1 (sCons (sOp fSub (sCB (fb1 gLen) (sCons (sVar 0) sNil)) (sC (.int 1))) sNil)) (tgName 2) sYes (sOp fLt (sOp fIx (sVar 0) (sVar 2)) (sOp fIx (sVar 0) (sOp fAdd (sVar 2) (sC (.int 1)))))) sNil))))
def m_is_sum : Mf := bodyM false 1 N_is_sum g_is_sum
def N_Tick___init__ : List Str := ["self", "mute", "sums", "at", "ages"]
abbrev b_Tick___init___0 : Ss := (sIfS (sOrT (sNot (sB (sCall m_is_sum (sCons (sVar 4) sNil)))) (sB (sOp (fInT false) (sVar 4) (sSlice (sVar 2) soNone (soSome (sVar 3)))))) (sRaise "BadTick" ["part"] (sCons (sVar 3) sNil)) sNext)
def g_Tick___init__ : Ss := (sSeq (sFor (sItET (sCons (sVar 2) sNil)) (tgTup 2 (tgCons (tgName 3) (tgCons (tgName 4) tgNil))) b_Tick___init___0)
    (sSeq (sIfS (sB (sOp fGt (sCB (fb1 gLen) (sCons (sVar 2) sNil)) (sC (.int 6)))) (sRaise "TooMany" ["what", "most"] (sCons (sC (.str "sums")) (sCons (sC (.int 6)) sNil))) sNext)
    (sSeq (sIfS (sOrT (sNot (sB (sIsi tab_bool (sVar 1)))) (sAndT (sB (sVar 1)) (sB (sCB (fb1 gAny) (sCons (sLc [4] (sItT (sVar 2)) (tgName 4) sYes (sOp (fInF false) (sC (.int 0)) (sVar 4))) sNil))))) (sRaise "BadTick" ["part"] (sCons (sC (.str "mute")) sNil)) sNext)
    (sSeq (sNewF "Tick" "sums" (sVar 0) (sCB (fb1 gTuple) (sCons (sVar 2) sNil)))
    (sNewF "Tick" "mute" (sVar 0) (sVar 1))))))
def m_Tick___init__ : Mf := starM false 1 1 N_Tick___init__ g_Tick___init__
def N_upcoming : List Str := ["words", "spot"]
def g_upcoming : Ss := (sRet (sIf (sB (sOp fLt (sVar 1) (sCB (fb1 gLen) (sCons (sVar 0) sNil)))) (sOp fIx (sVar 0) (sVar 1)) (sC (.str ""))))
def m_upcoming : Mf := bodyM false 2 N_upcoming g_upcoming
def N_read_sum : List Str := ["words", "spot", "is_mute", "ages", "least", "numbers", "number", "word"]
abbrev b_read_sum_0 : Ss := (sSeq (sSet 7 (sCall m_upcoming (sCons (sVar 0) (sCons (sVar 1) sNil))))
    (sSeq (sIfS (sOrT (sB (sOp (fInF true) (sVar 7) (sVar 5))) (sB (sOp fLt (sCB (fb1 gIntS) (sCons (sVar 7) sNil)) (sVar 4)))) (sRaise "BadText" ["line", "word"] (sCons (sC (.int 0)) (sCons (sVar 1) sNil))) sNext)
    (sSeq (sSet 3 (sTup (sStar (sVar 3) (sCons (sCB (fb1 gIntS) (sCons (sVar 7) sNil)) sNil))))
    (sSeq (sSet 4 (sOp fAdd (sCB (fb1 gIntS) (sCons (sVar 7) sNil)) (sC (.int 1))))
    (sAug 1 (gI fun i j => i + j) (sC (.int 1)))))))
def g_read_sum : Ss := (sSeq (sSet 3 (sTup sNil))
    (sSeq (sSet 4 (sCB (fb1 gInt) (sCons (sVar 2) sNil)))
    (sSeq (sSet 5 (sLc [6] (sItR1 (sCons (sOp fAdd (sC (.int 8)) (sC (.int 1))) sNil)) (tgName 6) sYes (sCB (fb1 gStr) (sCons (sVar 6) sNil))))
    (sSeq (sWhile 12 (sOrT (sB (sOp fEqS (sCB (fb1 gLen) (sCons (sVar 3) sNil)) (sC (.int 0)))) (sB (sOp (fInF false) (sCall m_upcoming (sCons (sVar 0) (sCons (sVar 1) sNil))) (sVar 5)))) b_read_sum_0)
    (sRet (sTup (sCons (sVar 1) (sCons (sVar 3) sNil))))))))
def m_read_sum : Mf := bodyM false 3 N_read_sum g_read_sum
def N_read_tick : List Str := ["words", "spot", "is_mute", "sums", "ages"]
abbrev b_read_tick_0 : Ss := (sSeq (sIfS (sB (sOp fEqS (sCB (fb1 gLen) (sCons (sVar 3) sNil)) (sC (.int 6)))) (sRaise "BadText" ["line", "word"] (sCons (sC (.int 0)) (sCons (sVar 1) sNil))) sNext)
    (sSeq (sAsg (sCall m_read_sum (sCons (sVar 0) (sCons (sOp fAdd (sVar 1) (sCB (fb1 gInt) (sCons (sOp fGt (sCB (fb1 gLen) (sCons (sVar 3) sNil)) (sC (.int 0))) sNil))) (sCons (sVar 2) sNil)))) (tgTup 2 (tgCons (tgName 1) (tgCons (tgName 4) tgNil))))
    (sSeq (sIfS (sB (sOp fInD (sVar 4) (sVar 3))) (sRaise "BadText" ["line", "word"] (sCons (sC (.int 0)) (sCons (sOp fSub (sVar 1) (sC (.int 1))) sNil))) sNext)
    (sExpr (sMB "list" fmAppend (sVar 3) (sCons (sVar 4) sNil))))))
def g_read_tick : Ss := (sSeq (sSet 2 (sOp fEqS (sCall m_upcoming (sCons (sVar 0) (sCons (sVar 1) sNil))) (sC (.str "mute"))))
    (sSeq (sSet 1 (sOp fAdd (sVar 1) (sCB (fb1 gInt) (sCons (sVar 2) sNil))))
    (sSeq (sSet 3 (sLstM sNil))
    (sSeq (sIfS (sB (sOp fEqS (sCall m_upcoming (sCons (sVar 0) (sCons (sVar 1) sNil))) (sC (.str "-")))) (sRet (sTup (sCons (sOp fAdd (sVar 1) (sC (.int 1))) (sCons (sMk false "Tick" m_Tick___init__ sNil (sCons (sVar 2) sNil)) sNil)))) sNext)
    (sSeq (sWhile 8 (sOrT (sB (sOp fEqS (sCB (fb1 gLen) (sCons (sVar 3) sNil)) (sC (.int 0)))) (sB (sOp fEqS (sCall m_upcoming (sCons (sVar 0) (sCons (sVar 1) sNil))) (sC (.str ","))))) b_read_tick_0)
    (sRet (sTup (sCons (sVar 1) (sCons (sMkS false "Tick" m_Tick___init__ (sVar 3) (sCons (sVar 2) sNil)) sNil)))))))))
def m_read_tick : Mf := bodyM false 2 N_read_tick g_read_tick
def N_Plan_read : List Str := ["cls", "text", "words", "spot", "tick", "ticks"]
abbrev b_Plan_read_0 : Ss := (sSeq (sIfS (sOrT (sB (sOp fNeS (sOp fIx (sVar 2) (sVar 3)) (sC (.str "/")))) (sB (sOp fEqS (sCB (fb1 gLen) (sCons (sVar 5) sNil)) (sC (.int 6))))) (sRaise "BadText" ["line", "word"] (sCons (sC (.int 0)) (sCons (sVar 3) sNil))) sNext)
    (sSeq (sAsg (sCall m_read_tick (sCons (sVar 2) (sCons (sOp fAdd (sVar 3) (sC (.int 1))) sNil))) (tgTup 2 (tgCons (tgName 3) (tgCons (tgName 4) tgNil))))
    (sExpr (sMB "list" fmAppend (sVar 5) (sCons (sVar 4) sNil)))))
def g_Plan_read : Ss := (sSeq (sSet 2 (sIf (sB (sIsi tab_str (sVar 1))) (sMB "str" fmSplit (sVar 1) (sCons (sC (.str " ")) sNil)) (sLst (sCons (sC (.str "")) sNil))))
    (sSeq (sAsg (sCall m_read_tick (sCons (sVar 2) (sCons (sC (.int 0)) sNil))) (tgTup 2 (tgCons (tgName 3) (tgCons (tgName 4) tgNil))))
    (sSeq (sSet 5 (sLstM (sCons (sVar 4) sNil)))
    (sSeq (sWhile 8 (sB (sOp fLt (sVar 3) (sCB (fb1 gLen) (sCons (sVar 2) sNil)))) b_Plan_read_0)
    (sRet (sMkS false "Plan" m_Plan___init__ (sVar 5) sNil))))))
def m_Plan_read : Mf := bodyM false 2 N_Plan_read g_Plan_read
def N_Bench_undo : List Str := ["self", "word", "plan"]
def g_Bench_undo : Ss := (sSeq (sIfS (sB (sOp fEqS (sCB (fb1 gLen) (sCons (sAttr "Bench" "past" 1 (sVar 0)) sNil)) (sC (.int 0)))) (sRaise0 "Nothing") sNext)
    (sSeq (sAsg (sMB "list" fmPop0 (sAttr "Bench" "past" 1 (sVar 0)) sNil) (tgTup 2 (tgCons (tgName 1) (tgCons (tgName 2) tgNil))))
    (sSeq (sSetF "Bench" "own_now" 0 (sVar 0) (sVar 2))
    (sRet (sVar 1)))))
def m_Bench_undo : Mf := bodyM false 1 N_Bench_undo g_Bench_undo
def N__law_heard : List Str := ["_law_ask", "_law_caught", "error"]
def g__law_heard : Ss := (sSeq (sIfS (sB (sCB (fbIsX xcl_BadBench_NoPhase xtab_BadBench_NoPhase) (sCons (sVar 1) (sCons (sTup (sCons (sC (.cls "BadBench")) (sCons (sC (.cls "NoPhase")) sNil))) sNil)))) (sRet (sTup (sCons (sC (.str "refused")) sNil))) sNext)
    (sRet (sIf (sB (sCB (fbIsX xcl_Nothing xtab_Nothing) (sCons (sVar 1) (sCons (sC (.cls "Nothing")) sNil)))) (sTup (sCons (sC (.str "nothing")) sNil)) (sTup (sCons (sC (.str "odd")) sNil)))))
def m__law_heard : (List Ce → R D) → List Ce → R D := hrd xcat N__law_heard g__law_heard
def N__law_tick_text : List Str := ["_law_tick_here", "_law_page", "_law_age", "_law_ages"]
def g__law_tick_text : Ss := (sSeq (sSet 1 (sIf (sB (sOp fNeD (sOp fIx (sVar 0) (sC (.int 1))) (sLst sNil))) (sMB "str" fmJoin (sC (.str " , ")) (sCons (sLc [3] (sItL (sOp fIx (sVar 0) (sC (.int 1)))) (tgName 3) sYes (sMB "str" fmJoin (sC (.str " ")) (sCons (sLc [2] (sItT (sVar 3)) (tgName 2) sYes (sCB (fb1 gStr) (sCons (sVar 2) sNil))) sNil))) sNil)) (sC (.str "-"))))
    (sRet (sOp fAddS (sIf (sB (sOp fIx (sVar 0) (sC (.int 0)))) (sC (.str "mute ")) (sC (.str ""))) (sVar 1))))
def m__law_tick_text : Mf := bodyM false 1 N__law_tick_text g__law_tick_text
def N__law_plan_text : List Str := ["_law_ticks", "_law_tick_here"]
def g__law_plan_text : Ss := (sRet (sMB "str" fmJoin (sC (.str " / ")) (sCons (sLc [1] (sItL (sVar 0)) (tgName 1) sYes (sCall m__law_tick_text (sCons (sVar 1) sNil))) sNil)))
def m__law_plan_text : Mf := bodyM false 1 N__law_plan_text g__law_plan_text
def N__law_back_right : List Str := ["_law_bench", "_law_past", "_law_ticks", "_law_word", "_law_elder"]
def g__law_back_right : Ss := (sSeq (sIfS (sB (sOp fEqD (sVar 1) (sLst sNil))) (sRet (sOp fEqD (sAsk m__law_heard (sMeth "Bench" "undo" m_Bench_undo (sVar 0) sNil)) (sTup (sCons (sC (.str "nothing")) sNil)))) sNext)
    (sSeq (sAsg (sMB "list" fmPop0 (sVar 1) sNil) (tgTup 2 (tgCons (tgName 3) (tgCons (tgName 4) tgNil))))
    (sSeq (sAsg (sVar 4) (tgAll (sVar 2)))
    (sRet (sAnd (sOp fEqS (sMeth "Bench" "undo" m_Bench_undo (sVar 0) sNil) (sVar 3)) (sAnd (sOp fEqS (sStrO "Plan" m_Plan___str__ (sCons (sProp "Bench" m_Bench_now (sVar 0)) sNil)) (sCall m__law_plan_text (sCons (sVar 4) sNil))) (sOp fEqS (sLenO "Bench" m_Bench___len__ (sCons (sVar 0) sNil)) (sCB (fb1 gLen) (sCons (sVar 1) sNil)))))))))
def m__law_back_right : Mf := bodyM false 3 N__law_back_right g__law_back_right
def N_Bench_done : List Str := ["self", "word", "plan"]
def g_Bench_done : Ss := (sSeq (sExpr (sMB "list" fmAppend (sAttr "Bench" "past" 1 (sVar 0)) (sCons (sTup (sCons (sVar 1) (sCons (sAttr "Bench" "own_now" 0 (sVar 0)) sNil))) sNil)))
    (sSetF "Bench" "own_now" 0 (sVar 0) (sVar 2)))
def m_Bench_done : Mf := bodyM false 3 N_Bench_done g_Bench_done
def N_Plan___len__ : List Str := ["self"]
def g_Plan___len__ : Ss := (sRet (sCB (fb1 gLen) (sCons (sAttr "Plan" "own_ticks" 0 (sVar 0)) sNil)))
def m_Plan___len__ : Mf := bodyM false 1 N_Plan___len__ g_Plan___len__
def N_need_tick : List Str := ["value"]
def g_need_tick : Ss := (sIfS (sNot (sB (sIsi tab_Tick (sVar 0)))) (sRaise "BadBench" ["part"] (sCons (sC (.str "tick")) sNil)) sNext)
def m_need_tick : Mf := bodyM false 1 N_need_tick g_need_tick
def N_plan_of : List Str := ["ticks"]
def g_plan_of : Ss := (sRet (sMkS false "Plan" m_Plan___init__ (sVar 0) sNil))
def m_plan_of : Mf := bodyM false 1 N_plan_of g_plan_of
def N_Bench_add : List Str := ["self", "tick", "phase"]
def g_Bench_add : Ss := (sSeq (sExpr (sCall m_need_tick (sCons (sVar 1) sNil)))
    (sSeq (sSet 2 (sLenO "Plan" m_Plan___len__ (sCons (sAttr "Bench" "own_now" 0 (sVar 0)) sNil)))
    (sSeq (sExpr (sMeth "Bench" "done" m_Bench_done (sVar 0) (sCons (sC (.str "add")) (sCons (sCall m_plan_of (sCons (sLst (sStarI "Plan" "own_ticks" 0 m_Plan___len__ (sAttr "Bench" "own_now" 0 (sVar 0)) (sCons (sVar 1) sNil))) sNil)) sNil))))
    (sRet (sVar 2)))))
def m_Bench_add : Mf := bodyM false 2 N_Bench_add g_Bench_add
def N_Bench_need_phase : List Str := ["self", "phase"]
def g_Bench_need_phase : Ss := (sIfS (sNot (sB (sCall m_is_within (sCons (sVar 1) (sCons (sC (.int 0)) (sCons (sOp fSub (sLenO "Plan" m_Plan___len__ (sCons (sAttr "Bench" "own_now" 0 (sVar 0)) sNil)) (sC (.int 1))) sNil)))))) (sRaise "NoPhase" ["at"] (sCons (sVar 1) sNil)) sNext)
def m_Bench_need_phase : Mf := bodyM false 2 N_Bench_need_phase g_Bench_need_phase
def N_Bench_drop : List Str := ["self", "phase", "ticks", "tick"]
def g_Bench_drop : Ss := (sSeq (sExpr (sMeth "Bench" "need_phase" m_Bench_need_phase (sVar 0) (sCons (sVar 1) sNil)))
    (sSeq (sSet 2 (sListI "Plan" "own_ticks" 0 m_Plan___len__ (sCons (sAttr "Bench" "own_now" 0 (sVar 0)) sNil)))
    (sSeq (sSet 3 (sMB "list" fmPop (sVar 2) (sCons (sVar 1) sNil)))
    (sSeq (sExpr (sMeth "Bench" "done" m_Bench_done (sVar 0) (sCons (sC (.str "drop")) (sCons (sCall m_plan_of (sCons (sVar 2) sNil)) sNil))))
    (sRet (sVar 3))))))
def m_Bench_drop : Mf := bodyM false 2 N_Bench_drop g_Bench_drop
def N_Tick_read : List Str := ["cls", "text", "words", "found"]
def g_Tick_read : Ss := (sSeq (sSet 2 (sIf (sB (sIsi tab_str (sVar 1))) (sMB "str" fmSplit (sVar 1) (sCons (sC (.str " ")) sNil)) (sLst (sCons (sC (.str "")) sNil))))
    (sSeq (sSet 3 (sCall m_read_tick (sCons (sVar 2) (sCons (sC (.int 0)) sNil))))
    (sSeq (sIfS (sB (sOp fLt (sOp fIx (sVar 3) (sC (.int 0))) (sCB (fb1 gLen) (sCons (sVar 2) sNil)))) (sRaise "BadText" ["line", "word"] (sCons (sC (.int 0)) (sCons (sOp fIx (sVar 3) (sC (.int 0))) sNil))) sNext)
    (sRet (sOp fIx (sVar 3) (sC (.int 1)))))))
def m_Tick_read : Mf := bodyM false 2 N_Tick_read g_Tick_read
def N__law_draw : List Str := ["_law_pen_here", "_law_many", "_law_digit", "_law_lap", "_law_cell", "_law_great", "_law_mixed"]
def g__law_draw : Ss := (sSeq (sIfS (sB (sOp fGt (sOp fIx (sVar 0) (sC (.int 2))) (sC (.int 0)))) (sSeq (sSet 2 (sOp fMod (sCB (fb1 gInt) (sCons (sOp fIx (sVar 0) (sC (.int 2))) sNil)) (sVar 1)))
    (sSeq (sAsg (sOp fFdiv (sCB (fb1 gInt) (sCons (sOp fIx (sVar 0) (sC (.int 2))) sNil)) (sVar 1)) (tgItem (sVar 0) (sC (.int 2))))
    (sRet (sVar 2)))) sNext)
    (sSeq (sSet 3 (sOp fIx (sVar 0) (sC (.int 1))))
    (sSeq (sAsg (sOp fAdd (sVar 3) (sC (.int 1))) (tgItem (sVar 0) (sC (.int 1))))
    (sSeq (sSet 4 (sOp fAdd (sOp fMul (sC (.int 88167)) (sVar 3)) (sC (.int 5473))))
    (sSeq (sIfS (sB (sOp fNeD (sOp fIx (sVar 0) (sC (.int 0))) (sLst sNil))) (sSet 4 (sOp fIx (sOp fIx (sVar 0) (sC (.int 0))) (sOp fMod (sCB (fb1 gInt) (sCons (sVar 3) sNil)) (sCB (fb1 gLen) (sCons (sOp fIx (sVar 0) (sC (.int 0))) sNil))))) sNext)
    (sSeq (sIfS (sAndT (sB (sOp fLt (sVar 3) (sCB (fb1 gLen) (sCons (sOp fIx (sVar 0) (sC (.int 0))) sNil)))) (sB (sOp fGe (sCB (fb1 gAbs) (sCons (sVar 4) sNil)) (sOp fPow (sC (.int 10)) (sC (.int 18)))))) (sSeq (sSet 5 (sOp fAdd (sOp fMul (sC (.int 2)) (sOp fSub (sCB (fb1 gAbs) (sCons (sVar 4) sNil)) (sOp fPow (sC (.int 10)) (sC (.int 18))))) (sCB (fb1 gInt) (sCons (sOp fLt (sVar 4) (sC (.int 0))) sNil))))
    (sSeq (sAsg (sOp fFdiv (sCB (fb1 gInt) (sCons (sVar 5) sNil)) (sVar 1)) (tgItem (sVar 0) (sC (.int 2))))
    (sRet (sOp fMod (sCB (fb1 gInt) (sCons (sVar 5) sNil)) (sVar 1))))) sNext)
    (sSeq (sSet 6 (sOp fMod (sCB (fb1 gInt) (sCons (sOp fPow (sOp fAdd (sOp fAdd (sOp fMod (sCB (fb1 gInt) (sCons (sVar 4) sNil)) (sC (.int 2147483629))) (sOp fMul (sC (.int 83655)) (sVar 3))) (sC (.int 649))) (sC (.int 5))) sNil)) (sC (.int 2147483563))))
    (sSeq (sSet 6 (sOp fMod (sCB (fb1 gInt) (sCons (sOp fPow (sOp fAdd (sOp fAdd (sOp fMul (sVar 6) (sOp fAdd (sOp fMul (sC (.int 2)) (sVar 3)) (sC (.int 399)))) (sOp fMul (sOp fMul (sC (.int 55439)) (sVar 3)) (sVar 3))) (sC (.int 841))) (sC (.int 3))) sNil)) (sC (.int 2147483497))))
    (sRet (sOp fMod (sCB (fb1 gInt) (sCons (sOp fFdiv (sVar 6) (sC (.int 32))) sNil)) (sVar 1)))))))))))
def m__law_draw : Mf := bodyM false 2 N__law_draw g__law_draw
def N_Plan___getitem__ : List Str := ["self", "phase"]
def g_Plan___getitem__ : Ss := (sSeq (sIfS (sNot (sB (sCall m_is_within (sCons (sVar 1) (sCons (sC (.int 0)) (sCons (sOp fSub (sCB (fb1 gLen) (sCons (sAttr "Plan" "own_ticks" 0 (sVar 0)) sNil)) (sC (.int 1))) sNil)))))) (sRaise "NoPhase" ["at"] (sCons (sVar 1) sNil)) sNext)
    (sRet (sOp fIx (sAttr "Plan" "own_ticks" 0 (sVar 0)) (sVar 1))))
def m_Plan___getitem__ : Mf := bodyM false 2 N_Plan___getitem__ g_Plan___getitem__
def N_Plan_with_phase : List Str := ["self", "phase", "tick", "ticks", "at", "own"]
def g_Plan_with_phase : Ss := (sSeq (sIfS (sNot (sB (sCall m_is_within (sCons (sVar 1) (sCons (sC (.int 0)) (sCons (sOp fSub (sCB (fb1 gLen) (sCons (sAttr "Plan" "own_ticks" 0 (sVar 0)) sNil)) (sC (.int 1))) sNil)))))) (sRaise "NoPhase" ["at"] (sCons (sVar 1) sNil)) sNext)
    (sSeq (sIfS (sNot (sB (sIsi tab_Tick (sVar 2)))) (sRaise "BadPlan" ["part"] (sCons (sC (.str "tick")) sNil)) sNext)
    (sSeq (sSet 3 (sLc [4, 5] (sItET (sCons (sAttr "Plan" "own_ticks" 0 (sVar 0)) sNil)) (tgTup 2 (tgCons (tgName 4) (tgCons (tgName 5) tgNil))) sYes (sIf (sB (sOp fEqS (sVar 4) (sVar 1))) (sVar 2) (sVar 5))))
    (sRet (sMkS false "Plan" m_Plan___init__ (sVar 3) sNil)))))
def m_Plan_with_phase : Mf := bodyM false 3 N_Plan_with_phase g_Plan_with_phase
def N_Tick___add__ : List Str := ["self", "ages", "sums"]
def g_Tick___add__ : Ss := (sSeq (sSet 2 (sLst (sStar (sAttr "Tick" "sums" 0 (sVar 0)) (sCons (sVar 1) sNil))))
    (sRet (sMkS false "Tick" m_Tick___init__ (sVar 2) (sCons (sAttr "Tick" "mute" 1 (sVar 0)) sNil))))
def m_Tick___add__ : Mf := bodyM false 2 N_Tick___add__ g_Tick___add__
def N_Bench_put : List Str := ["self", "phase", "ages"]
def g_Bench_put : Ss := (sSeq (sExpr (sMeth "Bench" "need_phase" m_Bench_need_phase (sVar 0) (sCons (sVar 1) sNil)))
    (sExpr (sMeth "Bench" "done" m_Bench_done (sVar 0) (sCons (sC (.str "put")) (sCons (sMeth "Plan" "with_phase" m_Plan_with_phase (sAttr "Bench" "own_now" 0 (sVar 0)) (sCons (sVar 1) (sCons (sOwn "Tick" m_Tick___add__ (some "tuple") (sOwn "Plan" m_Plan___getitem__ none (sAttr "Bench" "own_now" 0 (sVar 0)) (sVar 1)) (sVar 2)) sNil))) sNil)))))
def m_Bench_put : Mf := bodyM false 3 N_Bench_put g_Bench_put
def N_Bench_replace : List Str := ["self", "plan"]
def g_Bench_replace : Ss := (sSeq (sExpr (sCall m_need_plan (sCons (sVar 1) sNil)))
    (sExpr (sMeth "Bench" "done" m_Bench_done (sVar 0) (sCons (sC (.str "replace")) (sCons (sVar 1) sNil)))))
def m_Bench_replace : Mf := bodyM false 2 N_Bench_replace g_Bench_replace
def N_Tick___contains__ : List Str := ["self", "ages"]
def g_Tick___contains__ : Ss := (sRet (sAnd (sCall m_is_sum (sCons (sVar 1) sNil)) (sOp (fInT false) (sVar 1) (sAttr "Tick" "sums" 0 (sVar 0)))))
def m_Tick___contains__ : Mf := bodyM false 2 N_Tick___contains__ g_Tick___contains__
def N_Tick___sub__ : List Str := ["self", "ages", "sums", "own"]
def g_Tick___sub__ : Ss := (sSeq (sIfS (sB (sOwnIn true "Tick" m_Tick___contains__ (sVar 1) (sVar 0))) (sRaise "BadTick" ["part"] (sCons (sC (.str "sum")) sNil)) sNext)
    (sSeq (sSet 2 (sLc [3] (sItT (sAttr "Tick" "sums" 0 (sVar 0))) (tgName 3) (sB (sOp fNeD (sVar 3) (sVar 1))) (sVar 3)))
    (sRet (sMkS false "Tick" m_Tick___init__ (sVar 2) (sCons (sAttr "Tick" "mute" 1 (sVar 0)) sNil)))))
def m_Tick___sub__ : Mf := bodyM false 2 N_Tick___sub__ g_Tick___sub__
def N_Bench_take : List Str := ["self", "phase", "ages"]
def g_Bench_take : Ss := (sSeq (sExpr (sMeth "Bench" "need_phase" m_Bench_need_phase (sVar 0) (sCons (sVar 1) sNil)))
    (sExpr (sMeth "Bench" "done" m_Bench_done (sVar 0) (sCons (sC (.str "take")) (sCons (sMeth "Plan" "with_phase" m_Plan_with_phase (sAttr "Bench" "own_now" 0 (sVar 0)) (sCons (sVar 1) (sCons (sOwn "Tick" m_Tick___sub__ (some "tuple") (sOwn "Plan" m_Plan___getitem__ none (sAttr "Bench" "own_now" 0 (sVar 0)) (sVar 1)) (sVar 2)) sNil))) sNil)))))
def m_Bench_take : Mf := bodyM false 3 N_Bench_take g_Bench_take
def N_Plan___rshift__ : List Str := ["self", "number", "ticks", "at"]
def g_Plan___rshift__ : Ss := (sSeq (sIfS (sOrT (sNot (sB (sCall m_is_integer (sCons (sVar 1) sNil)))) (sB (sOp fLt (sVar 1) (sC (.int 0))))) (sRaise "BadCount" ["value"] (sCons (sVar 1) sNil)) sNext)
    (sSeq (sSet 2 (sLc [3] (sItR1 (sCons (sCB (fb1 gLen) (sCons (sAttr "Plan" "own_ticks" 0 (sVar 0)) sNil)) sNil)) (tgName 3) sYes (sOp fIx (sAttr "Plan" "own_ticks" 0 (sVar 0)) (sOp fMod (sOp fAdd (sVar 3) (sCB (fb1 gInt) (sCons (sVar 1) sNil))) (sCB (fb1 gLen) (sCons (sAttr "Plan" "own_ticks" 0 (sVar 0)) sNil))))))
    (sRet (sMkS false "Plan" m_Plan___init__ (sVar 2) sNil))))
def m_Plan___rshift__ : Mf := bodyM false 2 N_Plan___rshift__ g_Plan___rshift__
def N_Bench_turn : List Str := ["self", "n"]
def g_Bench_turn : Ss := (sExpr (sMeth "Bench" "done" m_Bench_done (sVar 0) (sCons (sC (.str "turn")) (sCons (sOwn "Plan" m_Plan___rshift__ (some "int") (sAttr "Bench" "own_now" 0 (sVar 0)) (sVar 1)) sNil))))
def m_Bench_turn : Mf := bodyM false 2 N_Bench_turn g_Bench_turn
def N__law_pick : List Str := ["_law_pen_here", "_law_some"]
def g__law_pick : Ss := (sRet (sOp fIx (sVar 1) (sCall m__law_draw (sCons (sVar 0) (sCons (sCB (fb1 gLen) (sCons (sVar 1) sNil)) sNil)))))
def m__law_pick : Mf := bodyM false 2 N__law_pick g__law_pick
def N__law_sum : List Str := ["_law_pen_here", "_law_is_mute", "_law_found", "_law_age"]
def g__law_sum : Ss := (sSeq (sSet 2 (sLc [3] (sItR2 (sCons (sCB (fb1 gInt) (sCons (sVar 1) sNil)) (sCons (sC (.int 5)) sNil))) (tgName 3) (sB (sOp fEqS (sCall m__law_draw (sCons (sVar 0) (sCons (sC (.int 3)) sNil))) (sC (.int 0)))) (sVar 3)))
    (sRet (sIf (sB (sOp fNeD (sVar 2) (sLst sNil))) (sCB (fb1 gTuple) (sCons (sVar 2) sNil)) (sTup (sCons (sOp fAdd (sC (.int 1)) (sCall m__law_draw (sCons (sVar 0) (sCons (sC (.int 8)) sNil)))) sNil)))))
def m__law_sum : Mf := bodyM false 2 N__law_sum g__law_sum
def N__law_tick : List Str := ["_law_pen_here", "_law_is_mute", "_law_found", "_law_turn_so", "_law_ages"]
abbrev b__law_tick_0 : Ss := (sSeq (sSet 4 (sCall m__law_sum (sCons (sVar 0) (sCons (sVar 1) sNil))))
    (sIfS (sB (sOp fNotInD (sVar 4) (sVar 2))) (sExpr (sMB "list" fmAppend (sVar 2) (sCons (sVar 4) sNil))) sNext))
def g__law_tick : Ss := (sSeq (sPar [1, 2] (sCons (sOp fEqS (sCall m__law_draw (sCons (sVar 0) (sCons (sC (.int 5)) sNil))) (sC (.int 0))) (sCons (sLstM sNil) sNil)))
    (sSeq (sFor (sItR1 (sCons (sCall m__law_pick (sCons (sVar 0) (sCons (sLst (sCons (sC (.int 1)) (sCons (sC (.int 2)) (sCons (sC (.int 2)) (sCons (sC (.int 3)) (sCons (sC (.int 0)) sNil)))))) sNil))) sNil)) (tgName 3) b__law_tick_0)
    (sRet (sTup (sCons (sVar 1) (sCons (sVar 2) sNil))))))
def m__law_tick : Mf := bodyM false 1 N__law_tick g__law_tick
def N__law_edited : List Str := ["_law_pen_here", "_law_bench", "_law_ticks", "_law_way", "_law_phase", "_law_is_mute", "_law_sums", "_law_ages", "_law_one", "_law_many", "_law_turned", "_law_turn_so"]
def g__law_edited : Ss := (sSeq (sAsg (sOp fIx (sVar 2) (sVar 4)) (tgTup 2 (tgCons (tgName 5) (tgCons (tgName 6) tgNil))))
    (sSeq (sIfS (sAndT (sB (sOp fEqS (sVar 3) (sC (.int 3)))) (sB (sOp fLt (sCB (fb1 gLen) (sCons (sVar 6) sNil)) (sC (.int 6))))) (sSeq (sSet 7 (sCall m__law_sum (sCons (sVar 0) (sCons (sVar 5) sNil))))
    (sSeq (sIfS (sB (sOp fInD (sVar 7) (sVar 6))) (sRet (sC .non)) sNext)
    (sSeq (sExpr (sMeth "Bench" "put" m_Bench_put (sVar 1) (sCons (sVar 4) (sCons (sVar 7) sNil))))
    (sSeq (sAsg (sTup (sCons (sVar 5) (sCons (sOp fCat (sVar 6) (sLst (sCons (sVar 7) sNil))) sNil))) (tgItem (sVar 2) (sVar 4)))
    (sRet (sC (.str "put"))))))) sNext)
    (sSeq (sIfS (sAndT (sB (sOp fEqS (sVar 3) (sC (.int 4)))) (sB (sOp fNeD (sVar 6) (sLst sNil)))) (sSeq (sSet 7 (sCall m__law_pick (sCons (sVar 0) (sCons (sVar 6) sNil))))
    (sSeq (sExpr (sMeth "Bench" "take" m_Bench_take (sVar 1) (sCons (sVar 4) (sCons (sVar 7) sNil))))
    (sSeq (sAsg (sTup (sCons (sVar 5) (sCons (sLc [8] (sItL (sVar 6)) (tgName 8) (sB (sOp fNeD (sVar 8) (sVar 7))) (sVar 8)) sNil))) (tgItem (sVar 2) (sVar 4)))
    (sRet (sC (.str "take")))))) sNext)
    (sSeq (sIfS (sB (sOp fEqS (sVar 3) (sC (.int 5)))) (sSeq (sSet 9 (sCall m__law_pick (sCons (sVar 0) (sCons (sLst (sCons (sC (.int 0)) (sCons (sC (.int 1)) (sCons (sC (.int 2)) (sCons (sC (.int 3)) (sCons (sC (.int 8)) (sCons (sC (.int 77)) (sCons (sOp fPow (sC (.int 10)) (sC (.int 30))) sNil)))))))) sNil))))
    (sSeq (sExpr (sMeth "Bench" "turn" m_Bench_turn (sVar 1) (sCons (sVar 9) sNil)))
    (sSeq (sSet 10 (sOp fMod (sCB (fb1 gInt) (sCons (sVar 9) sNil)) (sCB (fb1 gLen) (sCons (sVar 2) sNil))))
    (sSeq (sAsg (sOp fCat (sSlice (sVar 2) (soSome (sVar 10)) soNone) (sSlice (sVar 2) soNone (soSome (sVar 10)))) (tgAll (sVar 2)))
    (sRet (sC (.str "turn"))))))) sNext)
    (sSeq (sIfS (sB (sOp fEqS (sVar 3) (sC (.int 6)))) (sSeq (sAsg (sLc [11] (sItR1 (sCons (sOp fAdd (sC (.int 1)) (sCall m__law_draw (sCons (sVar 0) (sCons (sC (.int 4)) sNil)))) sNil)) (tgName 11) sYes (sCall m__law_tick (sCons (sVar 0) sNil))) (tgAll (sVar 2)))
    (sSeq (sExpr (sMeth "Bench" "replace" m_Bench_replace (sVar 1) (sCons (sCm "Plan" m_Plan_read (sCons (sCall m__law_plan_text (sCons (sVar 2) sNil)) sNil)) sNil)))
    (sRet (sC (.str "replace"))))) sNext)
    (sRet (sC .non)))))))
def m__law_edited : Mf := bodyM false 5 N__law_edited g__law_edited
def N_Bench___setitem__ : List Str := ["self", "phase", "tick"]
def g_Bench___setitem__ : Ss := (sSeq (sExpr (sMeth "Bench" "need_phase" m_Bench_need_phase (sVar 0) (sCons (sVar 1) sNil)))
    (sSeq (sExpr (sCall m_need_tick (sCons (sVar 2) sNil)))
    (sExpr (sMeth "Bench" "done" m_Bench_done (sVar 0) (sCons (sC (.str "set")) (sCons (sMeth "Plan" "with_phase" m_Plan_with_phase (sAttr "Bench" "own_now" 0 (sVar 0)) (sCons (sVar 1) (sCons (sVar 2) sNil))) sNil))))))
def m_Bench___setitem__ : Mf := bodyM false 3 N_Bench___setitem__ g_Bench___setitem__
def N__law_set : List Str := ["_law_bench", "_law_phase", "_law_tick_here"]
def g__law_set : Ss := (sAsg (sVar 2) (tgItemO "Bench" m_Bench___setitem__ (sVar 0) (sVar 1)))
def m__law_set : Mf := bodyM false 3 N__law_set g__law_set
def N__law_deed : List Str := ["_law_pen_here", "_law_bench", "_law_ticks", "_law_way", "_law_phase", "_law_tick_here", "_law_made", "_law_told"]
def g__law_deed : Ss := (sSeq (sPar [3, 4, 5] (sCons (sCall m__law_draw (sCons (sVar 0) (sCons (sC (.int 7)) sNil))) (sCons (sCall m__law_draw (sCons (sVar 0) (sCons (sCB (fb1 gLen) (sCons (sVar 2) sNil)) sNil))) (sCons (sCall m__law_tick (sCons (sVar 0) sNil)) sNil))))
    (sSeq (sSet 6 (sCm "Tick" m_Tick_read (sCons (sCall m__law_tick_text (sCons (sVar 5) sNil)) sNil)))
    (sSeq (sIfS (sAndT (sB (sOp fEqS (sVar 3) (sC (.int 0)))) (sB (sOp fLt (sCB (fb1 gLen) (sCons (sVar 2) sNil)) (sC (.int 6))))) (sSeq (sExpr (sMB "list" fmAppend (sVar 2) (sCons (sVar 5) sNil)))
    (sRet (sIf (sB (sOp fEqS (sMeth "Bench" "add" m_Bench_add (sVar 1) (sCons (sVar 6) sNil)) (sOp fSub (sCB (fb1 gLen) (sCons (sVar 2) sNil)) (sC (.int 1))))) (sC (.str "add")) (sC (.str "odd"))))) sNext)
    (sSeq (sIfS (sAndT (sB (sOp fEqS (sVar 3) (sC (.int 1)))) (sB (sOp fGt (sCB (fb1 gLen) (sCons (sVar 2) sNil)) (sC (.int 1))))) (sSeq (sSet 7 (sStrO "Tick" m_Tick___str__ (sCons (sMeth "Bench" "drop" m_Bench_drop (sVar 1) (sCons (sVar 4) sNil)) sNil)))
    (sRet (sIf (sB (sOp fEqS (sVar 7) (sCall m__law_tick_text (sCons (sMB "list" fmPop (sVar 2) (sCons (sVar 4) sNil)) sNil)))) (sC (.str "drop")) (sC (.str "odd"))))) sNext)
    (sSeq (sIfS (sB (sOp fEqS (sVar 3) (sC (.int 2)))) (sSeq (sExpr (sCall m__law_set (sCons (sVar 1) (sCons (sVar 4) (sCons (sVar 6) sNil)))))
    (sSeq (sAsg (sVar 5) (tgItem (sVar 2) (sVar 4)))
    (sRet (sC (.str "set"))))) sNext)
    (sRet (sCall m__law_edited (sCons (sVar 0) (sCons (sVar 1) (sCons (sVar 2) (sCons (sVar 3) (sCons (sVar 4) sNil))))))))))))
def m__law_deed : Mf := bodyM false 3 N__law_deed g__law_deed
def N__law_pen : List Str := ["_law_script"]
def g__law_pen : Ss := (sRet (sLstM (sCons (sCB (fb1 gList) (sCons (sSlice (sVar 0) soNone (soSome (sC (.int 63)))) sNil)) (sCons (sC (.int 0)) (sCons (sC (.int 0)) sNil)))))
def m__law_pen : Mf := bodyM true 1 N__law_pen g__law_pen
def N_Tick___eq__ : List Str := ["self", "other"]
def g_Tick___eq__ : Ss := (sRet (sAnd (sIsi tab_Tick (sVar 1)) (sAnd (sOp fEqD (sAttr "Tick" "sums" 0 (sVar 0)) (sAttr "Tick" "sums" 0 (sVar 1))) (sOp fEqS (sAttr "Tick" "mute" 1 (sVar 0)) (sAttr "Tick" "mute" 1 (sVar 1))))))
def m_Tick___eq__ : Mf := bodyM false 2 N_Tick___eq__ g_Tick___eq__
def N_Plan___eq__ : List Str := ["self", "other"]
def g_Plan___eq__ : Ss := (sRet (sAnd (sIsi tab_Plan (sVar 1)) (sOp (fQ (qTup (qOne "Tick" (qIns "Tick" "Tick" m_Tick___eq__)))) (sAttr "Plan" "own_ticks" 0 (sVar 0)) (sAttr "Plan" "own_ticks" 0 (sVar 1)))))
def m_Plan___eq__ : Mf := bodyM false 2 N_Plan___eq__ g_Plan___eq__
def N__law_refused_right : List Str := ["_law_bench", "_law_face", "_law_many", "_law_heard_here"]
def g__law_refused_right : Ss := (sSeq (sAsg (sTup (sCons (sProp "Bench" m_Bench_now (sVar 0)) (sCons (sLenO "Bench" m_Bench___len__ (sCons (sVar 0) sNil)) sNil))) (tgTup 2 (tgCons (tgName 1) (tgCons (tgName 2) tgNil))))
    (sSeq (sSet 3 (sLstM (sCons (sAsk m__law_heard (sMeth "Bench" "add" m_Bench_add (sVar 0) (sCons (sC .non) sNil))) sNil)))
    (sSeq (sExpr (sMB "list" fmAppend (sVar 3) (sCons (sAsk m__law_heard (sMeth "Bench" "drop" m_Bench_drop (sVar 0) (sCons (sLenO "Plan" m_Plan___len__ (sCons (sVar 1) sNil)) sNil))) sNil)))
    (sSeq (sExpr (sMB "list" fmAppend (sVar 3) (sCons (sAsk m__law_heard (sMeth "Bench" "replace" m_Bench_replace (sVar 0) (sCons (sC (.str "0")) sNil))) sNil)))
    (sSeq (sExpr (sMB "list" fmAppend (sVar 3) (sCons (sAsk m__law_heard (sCall m__law_set (sCons (sVar 0) (sCons (sC (.int 0)) (sCons (sTup (sCons (sC (.int 0)) sNil)) sNil))))) sNil)))
    (sRet (sAnd (sOp fEqD (sVar 3) (sOp fRep (sLst (sCons (sTup (sCons (sC (.str "refused")) sNil)) sNil)) (sC (.int 4)))) (sAnd (sOp (fQ (qIns "Plan" "Plan" m_Plan___eq__)) (sProp "Bench" m_Bench_now (sVar 0)) (sVar 1)) (sOp fEqS (sLenO "Bench" m_Bench___len__ (sCons (sVar 0) sNil)) (sVar 2))))))))))
def m__law_refused_right : Mf := bodyM false 1 N__law_refused_right g__law_refused_right
def N_law : List Str := ["_law_script", "_law_pen_here", "_law_lap_so", "_law_ticks", "_law_past", "_law_turn_so", "_law_bench", "_law_elder", "_law_word"]
abbrev b_law_0 : Ss := (sSeq (sIfS (sB (sOp fEqS (sCall m__law_draw (sCons (sVar 1) (sCons (sC (.int 4)) sNil))) (sC (.int 0)))) (sIfS (sNot (sB (sCall m__law_back_right (sCons (sVar 6) (sCons (sVar 4) (sCons (sVar 3) sNil)))))) (sRet (sC (.bl false))) sNext) (sSeq (sSet 7 (sCB (fb1 gList) (sCons (sVar 3) sNil)))
    (sSeq (sSet 8 (sCall m__law_deed (sCons (sVar 1) (sCons (sVar 6) (sCons (sVar 3) sNil)))))
    (sIfS (sB (sOp (fIsN true) (sVar 8) (sC .non))) (sExpr (sMB "list" fmAppend (sVar 4) (sCons (sTup (sCons (sVar 8) (sCons (sVar 7) sNil))) sNil))) sNext))))
    (sIfS (sOrT (sB (sOp fNeS (sStrO "Plan" m_Plan___str__ (sCons (sProp "Bench" m_Bench_now (sVar 6)) sNil)) (sCall m__law_plan_text (sCons (sVar 3) sNil)))) (sOrT (sB (sOp fNeS (sLenO "Bench" m_Bench___len__ (sCons (sVar 6) sNil)) (sCB (fb1 gLen) (sCons (sVar 4) sNil)))) (sNot (sB (sCall m__law_refused_right (sCons (sVar 6) sNil)))))) (sRet (sC (.bl false))) sNext))
abbrev b_law_1 : Ss := (sIfS (sNot (sB (sCall m__law_back_right (sCons (sVar 6) (sCons (sVar 4) (sCons (sVar 3) sNil)))))) (sRet (sC (.bl false))) sNext)
abbrev b_law_2 : Ss := (sSeq (sPar [3, 4] (sCons (sLcM [5] (sItR1 (sCons (sOp fAdd (sC (.int 1)) (sCall m__law_draw (sCons (sVar 1) (sCons (sC (.int 3)) sNil)))) sNil)) (tgName 5) sYes (sCall m__law_tick (sCons (sVar 1) sNil))) (sCons (sLstM sNil) sNil)))
    (sSeq (sSet 6 (sMk true "Bench" m_Bench___init__ (sCons (sCm "Plan" m_Plan_read (sCons (sCall m__law_plan_text (sCons (sVar 3) sNil)) sNil)) sNil) sNil))
    (sSeq (sFor (sItR1 (sCons (sC (.int 11)) sNil)) (tgName 5) b_law_0)
    (sFor (sItR1 (sCons (sOp fAdd (sCB (fb1 gLen) (sCons (sVar 4) sNil)) (sC (.int 1))) sNil)) (tgName 5) b_law_1))))
def g_law : Ss := (sSeq (sSet 1 (sCall m__law_pen (sCons (sVar 0) sNil)))
    (sSeq (sFor (sItR1 (sCons (sC (.int 4)) sNil)) (tgName 2) b_law_2)
    (sRet (sC (.bl true)))))
def m_law : Mf := bodyM false 1 N_law g_law
end K81
set_option Elab.async false
set_option linter.all false
set_option maxRecDepth 100000
set_option maxHeartbeats 4000000
/-! each def does what is told of it -/
namespace K81
open RL PySem PySem.Spec PyProof.Rows L2
abbrev top (i : Nat) : Stmt := PySem.Challenge.pw_laterepair_k81_whole_benches_led_back.main.body.getD i (.Pass ⟨0, 0, 0, 0⟩)
abbrev s_need_plan : Stmt := top 31
abbrev s_Bench___init__ : Stmt := inClass (top 35) 0
abbrev s_Bench___len__ : Stmt := inClass (top 35) 15
abbrev s_Bench_now : Stmt := inClass (top 35) 1
abbrev s_sums_text : Stmt := top 21
abbrev s_Tick___str__ : Stmt := inClass (top 20) 12
abbrev s_Plan___str__ : Stmt := inClass (top 26) 15
abbrev s_Plan___init__ : Stmt := inClass (top 26) 1
abbrev s_is_integer : Stmt := top 3
abbrev s_is_within : Stmt := top 4
abbrev s_is_age : Stmt := top 5
abbrev s_is_sum : Stmt := top 19
abbrev s_Tick___init__ : Stmt := inClass (top 20) 1
abbrev s_upcoming : Stmt := top 22
abbrev s_read_sum : Stmt := top 24
abbrev s_read_tick : Stmt := top 23
abbrev s_Plan_read : Stmt := inClass (top 26) 2
abbrev s_Bench_undo : Stmt := inClass (top 35) 14
abbrev s__law_heard : Stmt := top 47
abbrev s__law_tick_text : Stmt := top 42
abbrev s__law_plan_text : Stmt := top 43
abbrev s__law_back_right : Stmt := top 49
abbrev s_Bench_done : Stmt := inClass (top 35) 4
abbrev s_Plan___len__ : Stmt := inClass (top 26) 3
abbrev s_need_tick : Stmt := top 33
abbrev s_plan_of : Stmt := top 34
abbrev s_Bench_add : Stmt := inClass (top 35) 6
abbrev s_Bench_need_phase : Stmt := inClass (top 35) 5
abbrev s_Bench_drop : Stmt := inClass (top 35) 7
abbrev s_Tick_read : Stmt := inClass (top 20) 2
abbrev s__law_draw : Stmt := top 38
abbrev s_Plan___getitem__ : Stmt := inClass (top 26) 5
abbrev s_Plan_with_phase : Stmt := inClass (top 26) 11
abbrev s_Tick___add__ : Stmt := inClass (top 20) 8
abbrev s_Bench_put : Stmt := inClass (top 35) 8
abbrev s_Bench_replace : Stmt := inClass (top 35) 3
abbrev s_Tick___contains__ : Stmt := inClass (top 20) 7
abbrev s_Tick___sub__ : Stmt := inClass (top 20) 9
abbrev s_Bench_take : Stmt := inClass (top 35) 9
abbrev s_Plan___rshift__ : Stmt := inClass (top 26) 9
abbrev s_Bench_turn : Stmt := inClass (top 35) 10
abbrev s__law_pick : Stmt := top 39
abbrev s__law_sum : Stmt := top 40
abbrev s__law_tick : Stmt := top 41
abbrev s__law_edited : Stmt := top 45
abbrev s_Bench___setitem__ : Stmt := inClass (top 35) 13
abbrev s__law_set : Stmt := top 44
abbrev s__law_deed : Stmt := top 46
abbrev s__law_pen : Stmt := top 37
abbrev s_Tick___eq__ : Stmt := inClass (top 20) 11
abbrev s_Plan___eq__ : Stmt := inClass (top 26) 14
abbrev s__law_refused_right : Stmt := top 48
abbrev s_law : Stmt := top 50
abbrev s_Plan___iter__ : Stmt := inClass (top 26) 4
abbrev s_BadBench___init__ : Stmt := inClass (top 11) 0
abbrev xd_BadBench : Xf := ⟨"BadBench", "BadBench.__init__", defArgs s_BadBench___init__, defBody s_BadBench___init__, defScope s_BadBench___init__⟩
abbrev s_BadCount___init__ : Stmt := inClass (top 10) 0
abbrev xd_BadCount : Xf := ⟨"BadCount", "BadCount.__init__", defArgs s_BadCount___init__, defBody s_BadCount___init__, defScope s_BadCount___init__⟩
abbrev s_BadPlan___init__ : Stmt := inClass (top 9) 0
abbrev xd_BadPlan : Xf := ⟨"BadPlan", "BadPlan.__init__", defArgs s_BadPlan___init__, defBody s_BadPlan___init__, defScope s_BadPlan___init__⟩
abbrev s_BadText___init__ : Stmt := inClass (top 12) 0
abbrev xd_BadText : Xf := ⟨"BadText", "BadText.__init__", defArgs s_BadText___init__, defBody s_BadText___init__, defScope s_BadText___init__⟩
abbrev s_BadTick___init__ : Stmt := inClass (top 8) 0
abbrev xd_BadTick : Xf := ⟨"BadTick", "BadTick.__init__", defArgs s_BadTick___init__, defBody s_BadTick___init__, defScope s_BadTick___init__⟩
abbrev s_NoPhase___init__ : Stmt := inClass (top 13) 0
abbrev xd_NoPhase : Xf := ⟨"NoPhase", "NoPhase.__init__", defArgs s_NoPhase___init__, defBody s_NoPhase___init__, defScope s_NoPhase___init__⟩
abbrev s_TooMany___init__ : Stmt := inClass (top 15) 0
abbrev xd_TooMany : Xf := ⟨"TooMany", "TooMany.__init__", defArgs s_TooMany___init__, defBody s_TooMany___init__, defScope s_TooMany___init__⟩
structure Fx (P : Program) (w : World) (K : PySem.W.Frag) (mg : Str → Option Value) : Prop where
  free_iter : mg "iter" = none
  glo_BadBench : mg "BadBench" = some (.ref (He.ga K "BadBench"))
  glo_BadCount : mg "BadCount" = some (.ref (He.ga K "BadCount"))
  glo_BadPlan : mg "BadPlan" = some (.ref (He.ga K "BadPlan"))
  glo_BadText : mg "BadText" = some (.ref (He.ga K "BadText"))
  glo_BadTick : mg "BadTick" = some (.ref (He.ga K "BadTick"))
  glo_Bench : mg "Bench" = some (.ref (He.ga K "Bench"))
  glo_NoPhase : mg "NoPhase" = some (.ref (He.ga K "NoPhase"))
  glo_Nothing : mg "Nothing" = some (.ref (He.ga K "Nothing"))
  glo_Plan : mg "Plan" = some (.ref (He.ga K "Plan"))
  glo_RepairError : mg "RepairError" = some (.ref (He.ga K "RepairError"))
  glo_Tick : mg "Tick" = some (.ref (He.ga K "Tick"))
  glo_TooMany : mg "TooMany" = some (.ref (He.ga K "TooMany"))
  glo__law_back_right : mg "_law_back_right" = some (.ref (He.ga K "_law_back_right"))
  glo__law_deed : mg "_law_deed" = some (.ref (He.ga K "_law_deed"))
  glo__law_draw : mg "_law_draw" = some (.ref (He.ga K "_law_draw"))
  glo__law_edited : mg "_law_edited" = some (.ref (He.ga K "_law_edited"))
  glo__law_heard : mg "_law_heard" = some (.ref (He.ga K "_law_heard"))
  glo__law_pen : mg "_law_pen" = some (.ref (He.ga K "_law_pen"))
  glo__law_pick : mg "_law_pick" = some (.ref (He.ga K "_law_pick"))
  glo__law_plan_text : mg "_law_plan_text" = some (.ref (He.ga K "_law_plan_text"))
  glo__law_refused_right : mg "_law_refused_right" = some (.ref (He.ga K "_law_refused_right"))
  glo__law_set : mg "_law_set" = some (.ref (He.ga K "_law_set"))
  glo__law_sum : mg "_law_sum" = some (.ref (He.ga K "_law_sum"))
  glo__law_tick : mg "_law_tick" = some (.ref (He.ga K "_law_tick"))
  glo__law_tick_text : mg "_law_tick_text" = some (.ref (He.ga K "_law_tick_text"))
  glo_is_age : mg "is_age" = some (.ref (He.ga K "is_age"))
  glo_is_integer : mg "is_integer" = some (.ref (He.ga K "is_integer"))
  glo_is_sum : mg "is_sum" = some (.ref (He.ga K "is_sum"))
  glo_is_within : mg "is_within" = some (.ref (He.ga K "is_within"))
  glo_law : mg "law" = some (.ref (He.ga K "law"))
  glo_need_plan_bench : mg "need_plan_bench" = some (.ref (He.ga K "need_plan_bench"))
  glo_need_tick : mg "need_tick" = some (.ref (He.ga K "need_tick"))
  glo_plan_of : mg "plan_of" = some (.ref (He.ga K "plan_of"))
  glo_read_sum : mg "read_sum" = some (.ref (He.ga K "read_sum"))
  glo_read_tick : mg "read_tick" = some (.ref (He.ga K "read_tick"))
  glo_sums_text : mg "sums_text" = some (.ref (He.ga K "sums_text"))
  glo_upcoming : mg "upcoming" = some (.ref (He.ga K "upcoming"))
  free_abs : mg "abs" = none
  free_all : mg "all" = none
  free_any : mg "any" = none
  free_bool : mg "bool" = none
  free_enumerate : mg "enumerate" = none
  free_int : mg "int" = none
  free_isinstance : mg "isinstance" = none
  free_len : mg "len" = none
  free_list : mg "list" = none
  free_range : mg "range" = none
  free_str : mg "str" = none
  free_tuple : mg "tuple" = none
  int_MOST_AGE : ∃ t, mg "MOST_AGE" = some (.int 8 t)
  int_MOST_PHASES : ∃ t, mg "MOST_PHASES" = some (.int 6 t)
  int_MOST_SUMS : ∃ t, mg "MOST_SUMS" = some (.int 6 t)
  cls_Bench : Cls K (He.ga K "Bench")
  isc_Bench : IsC K "Bench"
  cls_Plan : Cls K (He.ga K "Plan")
  isc_Plan : IsC K "Plan"
  cls_Tick : Cls K (He.ga K "Tick")
  isc_Tick : IsC K "Tick"
  noat_Bench_own_now : NoAttr K (He.ga K "Bench") "own_now"
  noat_Bench_past : NoAttr K (He.ga K "Bench") "past"
  noat_Plan_own_ticks : NoAttr K (He.ga K "Plan") "own_ticks"
  noat_Tick_mute : NoAttr K (He.ga K "Tick") "mute"
  noat_Tick_sums : NoAttr K (He.ga K "Tick") "sums"
  isf : IsF K
  me_Bench___len__ : Meth K (He.ga K "Bench") "__len__" (He.ma K (He.ga K "Bench") "__len__")
  fi_Bench___len__ : PySem.W.fnIn K (He.ma K (He.ga K "Bench") "__len__") = true
  me_Tick___str__ : Meth K (He.ga K "Tick") "__str__" (He.ma K (He.ga K "Tick") "__str__")
  fi_Tick___str__ : PySem.W.fnIn K (He.ma K (He.ga K "Tick") "__str__") = true
  me_Plan___str__ : Meth K (He.ga K "Plan") "__str__" (He.ma K (He.ga K "Plan") "__str__")
  fi_Plan___str__ : PySem.W.fnIn K (He.ma K (He.ga K "Plan") "__str__") = true
  me_Bench_undo : Meth K (He.ga K "Bench") "undo" (He.ma K (He.ga K "Bench") "undo")
  fi_Bench_undo : PySem.W.fnIn K (He.ma K (He.ga K "Bench") "undo") = true
  me_Bench_done : Meth K (He.ga K "Bench") "done" (He.ma K (He.ga K "Bench") "done")
  fi_Bench_done : PySem.W.fnIn K (He.ma K (He.ga K "Bench") "done") = true
  me_Plan___len__ : Meth K (He.ga K "Plan") "__len__" (He.ma K (He.ga K "Plan") "__len__")
  fi_Plan___len__ : PySem.W.fnIn K (He.ma K (He.ga K "Plan") "__len__") = true
  me_Bench_add : Meth K (He.ga K "Bench") "add" (He.ma K (He.ga K "Bench") "add")
  fi_Bench_add : PySem.W.fnIn K (He.ma K (He.ga K "Bench") "add") = true
  me_Bench_need_phase : Meth K (He.ga K "Bench") "need_phase" (He.ma K (He.ga K "Bench") "need_phase")
  fi_Bench_need_phase : PySem.W.fnIn K (He.ma K (He.ga K "Bench") "need_phase") = true
  me_Bench_drop : Meth K (He.ga K "Bench") "drop" (He.ma K (He.ga K "Bench") "drop")
  fi_Bench_drop : PySem.W.fnIn K (He.ma K (He.ga K "Bench") "drop") = true
  me_Plan___getitem__ : Meth K (He.ga K "Plan") "__getitem__" (He.ma K (He.ga K "Plan") "__getitem__")
  fi_Plan___getitem__ : PySem.W.fnIn K (He.ma K (He.ga K "Plan") "__getitem__") = true
  me_Plan_with_phase : Meth K (He.ga K "Plan") "with_phase" (He.ma K (He.ga K "Plan") "with_phase")
  fi_Plan_with_phase : PySem.W.fnIn K (He.ma K (He.ga K "Plan") "with_phase") = true
  me_Tick___add__ : Meth K (He.ga K "Tick") (PySem.dunder (Operator.Add).info.2) (He.ma K (He.ga K "Tick") (PySem.dunder (Operator.Add).info.2))
  fi_Tick___add__ : PySem.W.fnIn K (He.ma K (He.ga K "Tick") (PySem.dunder (Operator.Add).info.2)) = true
  me_Bench_put : Meth K (He.ga K "Bench") "put" (He.ma K (He.ga K "Bench") "put")
  fi_Bench_put : PySem.W.fnIn K (He.ma K (He.ga K "Bench") "put") = true
  me_Bench_replace : Meth K (He.ga K "Bench") "replace" (He.ma K (He.ga K "Bench") "replace")
  fi_Bench_replace : PySem.W.fnIn K (He.ma K (He.ga K "Bench") "replace") = true
  me_Tick___contains__ : Meth K (He.ga K "Tick") "__contains__" (He.ma K (He.ga K "Tick") "__contains__")
  fi_Tick___contains__ : PySem.W.fnIn K (He.ma K (He.ga K "Tick") "__contains__") = true
  me_Tick___sub__ : Meth K (He.ga K "Tick") (PySem.dunder (Operator.Sub).info.2) (He.ma K (He.ga K "Tick") (PySem.dunder (Operator.Sub).info.2))
  fi_Tick___sub__ : PySem.W.fnIn K (He.ma K (He.ga K "Tick") (PySem.dunder (Operator.Sub).info.2)) = true
  me_Bench_take : Meth K (He.ga K "Bench") "take" (He.ma K (He.ga K "Bench") "take")
  fi_Bench_take : PySem.W.fnIn K (He.ma K (He.ga K "Bench") "take") = true
  me_Plan___rshift__ : Meth K (He.ga K "Plan") (PySem.dunder (Operator.RShift).info.2) (He.ma K (He.ga K "Plan") (PySem.dunder (Operator.RShift).info.2))
  fi_Plan___rshift__ : PySem.W.fnIn K (He.ma K (He.ga K "Plan") (PySem.dunder (Operator.RShift).info.2)) = true
  me_Bench_turn : Meth K (He.ga K "Bench") "turn" (He.ma K (He.ga K "Bench") "turn")
  fi_Bench_turn : PySem.W.fnIn K (He.ma K (He.ga K "Bench") "turn") = true
  me_Bench___setitem__ : Meth K (He.ga K "Bench") "__setitem__" (He.ma K (He.ga K "Bench") "__setitem__")
  fi_Bench___setitem__ : PySem.W.fnIn K (He.ma K (He.ga K "Bench") "__setitem__") = true
  me_Tick___eq__ : Meth K (He.ga K "Tick") "__eq__" (He.ma K (He.ga K "Tick") "__eq__")
  fi_Tick___eq__ : PySem.W.fnIn K (He.ma K (He.ga K "Tick") "__eq__") = true
  me_Plan___eq__ : Meth K (He.ga K "Plan") "__eq__" (He.ma K (He.ga K "Plan") "__eq__")
  fi_Plan___eq__ : PySem.W.fnIn K (He.ma K (He.ga K "Plan") "__eq__") = true
  me_Plan___iter__ : Meth K (He.ga K "Plan") "__iter__" (He.ma K (He.ga K "Plan") "__iter__")
  mk_Bench : Mk K (He.ga K "Bench") (He.ma K (He.ga K "Bench") "__init__")
  mk_Plan : Mk K (He.ga K "Plan") (He.ma K (He.ga K "Plan") "__init__")
  mk_Tick : Mk K (He.ga K "Tick") (He.ma K (He.ga K "Tick") "__init__")
  prop_Bench_now : ∃ p, PropOf K (He.ga K "Bench") "now" p (prA K "Bench" "now")
  cm_Plan_read : ∃ mc p, ClX.CRead K (He.ga K "Plan") mc ∧ ClX.CMet K (He.ga K "Plan") mc "read" p (cmA K "Plan" "read")
  cm_Tick_read : ∃ mc p, ClX.CRead K (He.ga K "Tick") mc ∧ ClX.CMet K (He.ga K "Tick") mc "read" p (cmA K "Tick" "read")
  exc_BadBench : ExcC K (He.ga K "BadBench")
  exc_BadCount : ExcC K (He.ga K "BadCount")
  exc_BadPlan : ExcC K (He.ga K "BadPlan")
  exc_BadText : ExcC K (He.ga K "BadText")
  exc_BadTick : ExcC K (He.ga K "BadTick")
  exc_NoPhase : ExcC K (He.ga K "NoPhase")
  exc_Nothing : ExcC K (He.ga K "Nothing")
  exc_TooMany : ExcC K (He.ga K "TooMany")
  xno_BadBench_part : PySem.W.findIn K (.ref (He.ga K "BadBench")) "part" = some none
  xno_BadCount_value : PySem.W.findIn K (.ref (He.ga K "BadCount")) "value" = some none
  xno_BadPlan_part : PySem.W.findIn K (.ref (He.ga K "BadPlan")) "part" = some none
  xno_BadText_line : PySem.W.findIn K (.ref (He.ga K "BadText")) "line" = some none
  xno_BadText_word : PySem.W.findIn K (.ref (He.ga K "BadText")) "word" = some none
  xno_BadTick_part : PySem.W.findIn K (.ref (He.ga K "BadTick")) "part" = some none
  xno_NoPhase_at : PySem.W.findIn K (.ref (He.ga K "NoPhase")) "at" = some none
  x0_Nothing : x0B "Nothing" K = true
  xno_TooMany_what : PySem.W.findIn K (.ref (He.ga K "TooMany")) "what" = some none
  xno_TooMany_most : PySem.W.findIn K (.ref (He.ga K "TooMany")) "most" = some none
  free_super : mg "super" = none
  isxb_BadBench_NoPhase : isxB xcl_BadBench_NoPhase xtab_BadBench_NoPhase K = true
  isxb_Nothing : isxB xcl_Nothing xtab_Nothing K = true
  cat : catB "RepairError" xcat K = true
  tabU : tabUB K = true
  lam__law_back_right : lamAtB "_law_back_right" K = true
  lam__law_refused_right : lamAtB "_law_refused_right" K = true
  lamb : lamB ["_law_back_right", "_law_refused_right", "law"] K = true
  tab_Plan : tabB K tab_Plan (.ref (He.ga K "Plan")) = true
  tab_Tick : tabB K tab_Tick (.ref (He.ga K "Tick")) = true
  tab_bool : tabB K tab_bool (.type "bool") = true
  tab_int : tabB K tab_int (.type "int") = true
  tab_str : tabB K tab_str (.type "str") = true
  tab_tuple : tabB K tab_tuple (.type "tuple") = true
  nf_Plan_Plan : PySem.W.notFirst K (He.ga K "Plan") (.ref (He.ga K "Plan")) = true
  nf_Tick_Tick : PySem.W.notFirst K (He.ga K "Tick") (.ref (He.ga K "Tick")) = true
  bin_Plan_RShift : PySem.W.selfFirst K (He.ga K "Plan") = true ∧ PySem.W.findIn K (.ref (He.ga K "Plan")) (dunderR (Operator.RShift).info.2) = some none ∧ PySem.W.findIn K (.type "int") (PySem.dunder (Operator.RShift).info.2) = some ((PySem.W.findIn K (.type "int") (PySem.dunder (Operator.RShift).info.2)).getD none) ∧ PySem.W.findIn K (.type "int") (dunderR (Operator.RShift).info.2) = some ((PySem.W.findIn K (.type "int") (dunderR (Operator.RShift).info.2)).getD none) ∧ PySem.W.subIn K (.type "int") (.ref (He.ga K "Plan")) = some false
  bin_Tick_Add : PySem.W.selfFirst K (He.ga K "Tick") = true ∧ PySem.W.findIn K (.ref (He.ga K "Tick")) (dunderR (Operator.Add).info.2) = some none ∧ PySem.W.findIn K (.type "tuple") (PySem.dunder (Operator.Add).info.2) = some ((PySem.W.findIn K (.type "tuple") (PySem.dunder (Operator.Add).info.2)).getD none) ∧ PySem.W.findIn K (.type "tuple") (dunderR (Operator.Add).info.2) = some ((PySem.W.findIn K (.type "tuple") (dunderR (Operator.Add).info.2)).getD none) ∧ PySem.W.subIn K (.type "tuple") (.ref (He.ga K "Tick")) = some false
  bin_Tick_Sub : PySem.W.selfFirst K (He.ga K "Tick") = true ∧ PySem.W.findIn K (.ref (He.ga K "Tick")) (dunderR (Operator.Sub).info.2) = some none ∧ PySem.W.findIn K (.type "tuple") (PySem.dunder (Operator.Sub).info.2) = some ((PySem.W.findIn K (.type "tuple") (PySem.dunder (Operator.Sub).info.2)).getD none) ∧ PySem.W.findIn K (.type "tuple") (dunderR (Operator.Sub).info.2) = some ((PySem.W.findIn K (.type "tuple") (dunderR (Operator.Sub).info.2)).getD none) ∧ PySem.W.subIn K (.type "tuple") (.ref (He.ga K "Tick")) = some false
  noseq_Bench : PySem.W.noSeq K (He.ga K "Bench") = true
  xf_BadBench : XfOk P K xd_BadBench
  xf_BadCount : XfOk P K xd_BadCount
  xf_BadPlan : XfOk P K xd_BadPlan
  xf_BadText : XfOk P K xd_BadText
  xf_BadTick : XfOk P K xd_BadTick
  xf_NoPhase : XfOk P K xd_NoPhase
  xf_TooMany : XfOk P K xd_TooMany
  d_need_plan : ∃ fd, FunD K "need_plan" "need_plan" (defArgs s_need_plan) (defBody s_need_plan) (defScope s_need_plan) [] [] (He.ga K "need_plan_bench") fd
  d_Bench___init__ : ∃ fd, FunD K "__init__" "Bench.__init__" (defArgs s_Bench___init__) (defBody s_Bench___init__) (defScope s_Bench___init__) [] [] (He.ma K (He.ga K "Bench") "__init__") fd
  d_Bench___len__ : ∃ fd, FunD K "__len__" "Bench.__len__" (defArgs s_Bench___len__) (defBody s_Bench___len__) (defScope s_Bench___len__) [] [] (He.ma K (He.ga K "Bench") "__len__") fd
  d_Bench_now : ∃ fd, FunD K "now" "Bench.now" (defArgs s_Bench_now) (defBody s_Bench_now) (defScope s_Bench_now) [] [] (prA K "Bench" "now") fd
  d_sums_text : ∃ fd, FunD K "sums_text" "sums_text" (defArgs s_sums_text) (defBody s_sums_text) (defScope s_sums_text) [] [] (He.ga K "sums_text") fd
  d_Tick___str__ : ∃ fd, FunD K "__str__" "Tick.__str__" (defArgs s_Tick___str__) (defBody s_Tick___str__) (defScope s_Tick___str__) [] [] (He.ma K (He.ga K "Tick") "__str__") fd
  d_Plan___str__ : ∃ fd, FunD K "__str__" "Plan.__str__" (defArgs s_Plan___str__) (defBody s_Plan___str__) (defScope s_Plan___str__) [] [] (He.ma K (He.ga K "Plan") "__str__") fd
  d_Plan___init__ : ∃ fd, FunD K "__init__" "Plan.__init__" (defArgs s_Plan___init__) (defBody s_Plan___init__) (defScope s_Plan___init__) [] [] (He.ma K (He.ga K "Plan") "__init__") fd
  d_is_integer : ∃ fd, FunD K "is_integer" "is_integer" (defArgs s_is_integer) (defBody s_is_integer) (defScope s_is_integer) [] [] (He.ga K "is_integer") fd
  d_is_within : ∃ fd, FunD K "is_within" "is_within" (defArgs s_is_within) (defBody s_is_within) (defScope s_is_within) [] [] (He.ga K "is_within") fd
  d_is_age : ∃ fd, FunD K "is_age" "is_age" (defArgs s_is_age) (defBody s_is_age) (defScope s_is_age) [] [] (He.ga K "is_age") fd
  d_is_sum : ∃ fd, FunD K "is_sum" "is_sum" (defArgs s_is_sum) (defBody s_is_sum) (defScope s_is_sum) [] [] (He.ga K "is_sum") fd
  d_Tick___init__ : ∃ fd, FunD K "__init__" "Tick.__init__" (defArgs s_Tick___init__) (defBody s_Tick___init__) (defScope s_Tick___init__) [] [("mute", .bl false)] (He.ma K (He.ga K "Tick") "__init__") fd
  d_upcoming : ∃ fd, FunD K "upcoming" "upcoming" (defArgs s_upcoming) (defBody s_upcoming) (defScope s_upcoming) [] [] (He.ga K "upcoming") fd
  d_read_sum : ∃ fd, FunD K "read_sum" "read_sum" (defArgs s_read_sum) (defBody s_read_sum) (defScope s_read_sum) [] [] (He.ga K "read_sum") fd
  d_read_tick : ∃ fd, FunD K "read_tick" "read_tick" (defArgs s_read_tick) (defBody s_read_tick) (defScope s_read_tick) [] [] (He.ga K "read_tick") fd
  d_Plan_read : ∃ fd, FunD K "read" "Plan.read" (defArgs s_Plan_read) (defBody s_Plan_read) (defScope s_Plan_read) [] [] (cmA K "Plan" "read") fd
  d_Bench_undo : ∃ fd, FunD K "undo" "Bench.undo" (defArgs s_Bench_undo) (defBody s_Bench_undo) (defScope s_Bench_undo) [] [] (He.ma K (He.ga K "Bench") "undo") fd
  d__law_heard : ∃ fd, FunD K "_law_heard" "_law_heard" (defArgs s__law_heard) (defBody s__law_heard) (defScope s__law_heard) [] [] (He.ga K "_law_heard") fd
  d__law_tick_text : ∃ fd, FunD K "_law_tick_text" "_law_tick_text" (defArgs s__law_tick_text) (defBody s__law_tick_text) (defScope s__law_tick_text) [] [] (He.ga K "_law_tick_text") fd
  d__law_plan_text : ∃ fd, FunD K "_law_plan_text" "_law_plan_text" (defArgs s__law_plan_text) (defBody s__law_plan_text) (defScope s__law_plan_text) [] [] (He.ga K "_law_plan_text") fd
  d__law_back_right : ∃ fd, FunD K "_law_back_right" "_law_back_right" (defArgs s__law_back_right) (defBody s__law_back_right) (defScope s__law_back_right) [] [] (He.ga K "_law_back_right") fd
  d_Bench_done : ∃ fd, FunD K "done" "Bench.done" (defArgs s_Bench_done) (defBody s_Bench_done) (defScope s_Bench_done) [] [] (He.ma K (He.ga K "Bench") "done") fd
  d_Plan___len__ : ∃ fd, FunD K "__len__" "Plan.__len__" (defArgs s_Plan___len__) (defBody s_Plan___len__) (defScope s_Plan___len__) [] [] (He.ma K (He.ga K "Plan") "__len__") fd
  d_need_tick : ∃ fd, FunD K "need_tick" "need_tick" (defArgs s_need_tick) (defBody s_need_tick) (defScope s_need_tick) [] [] (He.ga K "need_tick") fd
  d_plan_of : ∃ fd, FunD K "plan_of" "plan_of" (defArgs s_plan_of) (defBody s_plan_of) (defScope s_plan_of) [] [] (He.ga K "plan_of") fd
  d_Bench_add : ∃ fd, FunD K "add" "Bench.add" (defArgs s_Bench_add) (defBody s_Bench_add) (defScope s_Bench_add) [] [] (He.ma K (He.ga K "Bench") "add") fd
  d_Bench_need_phase : ∃ fd, FunD K "need_phase" "Bench.need_phase" (defArgs s_Bench_need_phase) (defBody s_Bench_need_phase) (defScope s_Bench_need_phase) [] [] (He.ma K (He.ga K "Bench") "need_phase") fd
  d_Bench_drop : ∃ fd, FunD K "drop" "Bench.drop" (defArgs s_Bench_drop) (defBody s_Bench_drop) (defScope s_Bench_drop) [] [] (He.ma K (He.ga K "Bench") "drop") fd
  d_Tick_read : ∃ fd, FunD K "read" "Tick.read" (defArgs s_Tick_read) (defBody s_Tick_read) (defScope s_Tick_read) [] [] (cmA K "Tick" "read") fd
  d__law_draw : ∃ fd, FunD K "_law_draw" "_law_draw" (defArgs s__law_draw) (defBody s__law_draw) (defScope s__law_draw) [] [] (He.ga K "_law_draw") fd
  d_Plan___getitem__ : ∃ fd, FunD K "__getitem__" "Plan.__getitem__" (defArgs s_Plan___getitem__) (defBody s_Plan___getitem__) (defScope s_Plan___getitem__) [] [] (He.ma K (He.ga K "Plan") "__getitem__") fd
  d_Plan_with_phase : ∃ fd, FunD K "with_phase" "Plan.with_phase" (defArgs s_Plan_with_phase) (defBody s_Plan_with_phase) (defScope s_Plan_with_phase) [] [] (He.ma K (He.ga K "Plan") "with_phase") fd
  d_Tick___add__ : ∃ fd, FunD K "__add__" "Tick.__add__" (defArgs s_Tick___add__) (defBody s_Tick___add__) (defScope s_Tick___add__) [] [] (He.ma K (He.ga K "Tick") (PySem.dunder (Operator.Add).info.2)) fd
  d_Bench_put : ∃ fd, FunD K "put" "Bench.put" (defArgs s_Bench_put) (defBody s_Bench_put) (defScope s_Bench_put) [] [] (He.ma K (He.ga K "Bench") "put") fd
  d_Bench_replace : ∃ fd, FunD K "replace" "Bench.replace" (defArgs s_Bench_replace) (defBody s_Bench_replace) (defScope s_Bench_replace) [] [] (He.ma K (He.ga K "Bench") "replace") fd
  d_Tick___contains__ : ∃ fd, FunD K "__contains__" "Tick.__contains__" (defArgs s_Tick___contains__) (defBody s_Tick___contains__) (defScope s_Tick___contains__) [] [] (He.ma K (He.ga K "Tick") "__contains__") fd
  d_Tick___sub__ : ∃ fd, FunD K "__sub__" "Tick.__sub__" (defArgs s_Tick___sub__) (defBody s_Tick___sub__) (defScope s_Tick___sub__) [] [] (He.ma K (He.ga K "Tick") (PySem.dunder (Operator.Sub).info.2)) fd
  d_Bench_take : ∃ fd, FunD K "take" "Bench.take" (defArgs s_Bench_take) (defBody s_Bench_take) (defScope s_Bench_take) [] [] (He.ma K (He.ga K "Bench") "take") fd
  d_Plan___rshift__ : ∃ fd, FunD K "__rshift__" "Plan.__rshift__" (defArgs s_Plan___rshift__) (defBody s_Plan___rshift__) (defScope s_Plan___rshift__) [] [] (He.ma K (He.ga K "Plan") (PySem.dunder (Operator.RShift).info.2)) fd
  d_Bench_turn : ∃ fd, FunD K "turn" "Bench.turn" (defArgs s_Bench_turn) (defBody s_Bench_turn) (defScope s_Bench_turn) [] [] (He.ma K (He.ga K "Bench") "turn") fd
  d__law_pick : ∃ fd, FunD K "_law_pick" "_law_pick" (defArgs s__law_pick) (defBody s__law_pick) (defScope s__law_pick) [] [] (He.ga K "_law_pick") fd
  d__law_sum : ∃ fd, FunD K "_law_sum" "_law_sum" (defArgs s__law_sum) (defBody s__law_sum) (defScope s__law_sum) [] [] (He.ga K "_law_sum") fd
  d__law_tick : ∃ fd, FunD K "_law_tick" "_law_tick" (defArgs s__law_tick) (defBody s__law_tick) (defScope s__law_tick) [] [] (He.ga K "_law_tick") fd
  d__law_edited : ∃ fd, FunD K "_law_edited" "_law_edited" (defArgs s__law_edited) (defBody s__law_edited) (defScope s__law_edited) [] [] (He.ga K "_law_edited") fd
  d_Bench___setitem__ : ∃ fd, FunD K "__setitem__" "Bench.__setitem__" (defArgs s_Bench___setitem__) (defBody s_Bench___setitem__) (defScope s_Bench___setitem__) [] [] (He.ma K (He.ga K "Bench") "__setitem__") fd
  d__law_set : ∃ fd, FunD K "_law_set" "_law_set" (defArgs s__law_set) (defBody s__law_set) (defScope s__law_set) [] [] (He.ga K "_law_set") fd
  d__law_deed : ∃ fd, FunD K "_law_deed" "_law_deed" (defArgs s__law_deed) (defBody s__law_deed) (defScope s__law_deed) [] [] (He.ga K "_law_deed") fd
  d__law_pen : ∃ fd, FunD K "_law_pen" "_law_pen" (defArgs s__law_pen) (defBody s__law_pen) (defScope s__law_pen) [] [] (He.ga K "_law_pen") fd
  d_Tick___eq__ : ∃ fd, FunD K "__eq__" "Tick.__eq__" (defArgs s_Tick___eq__) (defBody s_Tick___eq__) (defScope s_Tick___eq__) [] [] (He.ma K (He.ga K "Tick") "__eq__") fd
  d_Plan___eq__ : ∃ fd, FunD K "__eq__" "Plan.__eq__" (defArgs s_Plan___eq__) (defBody s_Plan___eq__) (defScope s_Plan___eq__) [] [] (He.ma K (He.ga K "Plan") "__eq__") fd
  d__law_refused_right : ∃ fd, FunD K "_law_refused_right" "_law_refused_right" (defArgs s__law_refused_right) (defBody s__law_refused_right) (defScope s__law_refused_right) [] [] (He.ga K "_law_refused_right") fd
  d_law : ∃ fd, FunD K "law" "law" (defArgs s_law) (defBody s_law) (defScope s_law) [] [] (He.ga K "law") fd
  d_Plan___iter__ : ∃ fd, FunD K "__iter__" "Plan.__iter__" (defArgs s_Plan___iter__) (defBody s_Plan___iter__) (defScope s_Plan___iter__) [] [] (He.ma K (He.ga K "Plan") "__iter__") fd
section
variable {P : Program} {w : World} {K : PySem.W.Frag} {mg : Str → Option Value} {base : Heap}
theorem tab_ok_Plan (Z : Fx P w K mg) : TabOk K tab_Plan (.ref (He.ga K "Plan")) := tab_of Z.tab_Plan fun p hp n e => by
  simp only [tab_Plan, List.mem_cons, List.not_mem_nil, or_false] at hp
  rcases hp with rfl | rfl | rfl | rfl | rfl | rfl | rfl | rfl | rfl | rfl
  all_goals first | (cases e; done) | (cases e; first | exact Z.isc_Bench | exact Z.isc_Plan | exact Z.isc_Tick)
theorem tab_ok_Tick (Z : Fx P w K mg) : TabOk K tab_Tick (.ref (He.ga K "Tick")) := tab_of Z.tab_Tick fun p hp n e => by
  simp only [tab_Tick, List.mem_cons, List.not_mem_nil, or_false] at hp
  rcases hp with rfl | rfl | rfl | rfl | rfl | rfl | rfl | rfl | rfl | rfl
  all_goals first | (cases e; done) | (cases e; first | exact Z.isc_Bench | exact Z.isc_Plan | exact Z.isc_Tick)
theorem tab_ok_bool (Z : Fx P w K mg) : TabOk K tab_bool (.type "bool") := tab_of Z.tab_bool fun p hp n e => by
  simp only [tab_bool, List.mem_cons, List.not_mem_nil, or_false] at hp
  rcases hp with rfl | rfl | rfl | rfl | rfl | rfl | rfl | rfl | rfl | rfl
  all_goals first | (cases e; done) | (cases e; first | exact Z.isc_Bench | exact Z.isc_Plan | exact Z.isc_Tick)
theorem tab_ok_int (Z : Fx P w K mg) : TabOk K tab_int (.type "int") := tab_of Z.tab_int fun p hp n e => by
  simp only [tab_int, List.mem_cons, List.not_mem_nil, or_false] at hp
  rcases hp with rfl | rfl | rfl | rfl | rfl | rfl | rfl | rfl | rfl | rfl
  all_goals first | (cases e; done) | (cases e; first | exact Z.isc_Bench | exact Z.isc_Plan | exact Z.isc_Tick)
theorem tab_ok_str (Z : Fx P w K mg) : TabOk K tab_str (.type "str") := tab_of Z.tab_str fun p hp n e => by
  simp only [tab_str, List.mem_cons, List.not_mem_nil, or_false] at hp
  rcases hp with rfl | rfl | rfl | rfl | rfl | rfl | rfl | rfl | rfl | rfl
  all_goals first | (cases e; done) | (cases e; first | exact Z.isc_Bench | exact Z.isc_Plan | exact Z.isc_Tick)
theorem tab_ok_tuple (Z : Fx P w K mg) : TabOk K tab_tuple (.type "tuple") := tab_of Z.tab_tuple fun p hp n e => by
  simp only [tab_tuple, List.mem_cons, List.not_mem_nil, or_false] at hp
  rcases hp with rfl | rfl | rfl | rfl | rfl | rfl | rfl | rfl | rfl | rfl
  all_goals first | (cases e; done) | (cases e; first | exact Z.isc_Bench | exact Z.isc_Plan | exact Z.isc_Tick)
theorem isx_BadBench_NoPhase (Z : Fx P w K mg) : IsXT K xcl_BadBench_NoPhase xtab_BadBench_NoPhase := isx_of Z.isxb_BadBench_NoPhase fun p hp => by
  simp only [xtab_BadBench_NoPhase, List.mem_cons, List.not_mem_nil, or_false] at hp
  rcases hp with rfl | rfl | rfl | rfl | rfl | rfl | rfl | rfl
  · exact Z.exc_BadBench
  · exact Z.exc_BadCount
  · exact Z.exc_BadPlan
  · exact Z.exc_BadText
  · exact Z.exc_BadTick
  · exact Z.exc_NoPhase
  · exact Z.exc_Nothing
  · exact Z.exc_TooMany
theorem isx_Nothing (Z : Fx P w K mg) : IsXT K xcl_Nothing xtab_Nothing := isx_of Z.isxb_Nothing fun p hp => by
  simp only [xtab_Nothing, List.mem_cons, List.not_mem_nil, or_false] at hp
  rcases hp with rfl | rfl | rfl | rfl | rfl | rfl | rfl | rfl
  · exact Z.exc_BadBench
  · exact Z.exc_BadCount
  · exact Z.exc_BadPlan
  · exact Z.exc_BadText
  · exact Z.exc_BadTick
  · exact Z.exc_NoPhase
  · exact Z.exc_Nothing
  · exact Z.exc_TooMany
theorem xmk_BadBench {X : Cx} (Z : Fx X.prog X.w X.K X.mg) : XMk X "BadBench" "BadBench" ["part"] := by
  obtain ⟨⟨fd, F, _⟩, hi, ti⟩ := Z.xf_BadBench
  refine ⟨⟨_, fd, ["self", "part"], F.ox, hi, ti, xfn1 (⟨rfl, rfl, rfl, by decide +kernel, by decide +kernel, by decide +kernel, rfl, rfl⟩) rfl F ⟨_, rfl, rfl⟩ Z.free_super Z.xno_BadBench_part (fun _ _ _ => ⟨_, rfl⟩), ?_⟩, Z.glo_BadBench⟩
  obtain ⟨oc, od, kV, doc, pm, an, cda, ct, osl, cc, cl, cld, csl, ccl, cdd, vs, ccs, file, tf, rfl, _⟩ := F.ex
  exact .all fun us hl => match us, hl with | [_, _], _ => rfl
theorem xmk_BadCount {X : Cx} (Z : Fx X.prog X.w X.K X.mg) : XMk X "BadCount" "BadCount" ["value"] := by
  obtain ⟨⟨fd, F, _⟩, hi, ti⟩ := Z.xf_BadCount
  refine ⟨⟨_, fd, ["self", "value"], F.ox, hi, ti, xfn1 (⟨rfl, rfl, rfl, by decide +kernel, by decide +kernel, by decide +kernel, rfl, rfl⟩) rfl F ⟨_, rfl, rfl⟩ Z.free_super Z.xno_BadCount_value (fun _ _ _ => ⟨_, rfl⟩), ?_⟩, Z.glo_BadCount⟩
  obtain ⟨oc, od, kV, doc, pm, an, cda, ct, osl, cc, cl, cld, csl, ccl, cdd, vs, ccs, file, tf, rfl, _⟩ := F.ex
  exact .all fun us hl => match us, hl with | [_, _], _ => rfl
theorem xmk_BadPlan {X : Cx} (Z : Fx X.prog X.w X.K X.mg) : XMk X "BadPlan" "BadPlan" ["part"] := by
  obtain ⟨⟨fd, F, _⟩, hi, ti⟩ := Z.xf_BadPlan
  refine ⟨⟨_, fd, ["self", "part"], F.ox, hi, ti, xfn1 (⟨rfl, rfl, rfl, by decide +kernel, by decide +kernel, by decide +kernel, rfl, rfl⟩) rfl F ⟨_, rfl, rfl⟩ Z.free_super Z.xno_BadPlan_part (fun _ _ _ => ⟨_, rfl⟩), ?_⟩, Z.glo_BadPlan⟩
  obtain ⟨oc, od, kV, doc, pm, an, cda, ct, osl, cc, cl, cld, csl, ccl, cdd, vs, ccs, file, tf, rfl, _⟩ := F.ex
  exact .all fun us hl => match us, hl with | [_, _], _ => rfl
theorem xmk_BadText {X : Cx} (Z : Fx X.prog X.w X.K X.mg) : XMk X "BadText" "BadText" ["line", "word"] := by
  obtain ⟨⟨fd, F, _⟩, hi, ti⟩ := Z.xf_BadText
  refine ⟨⟨_, fd, ["self", "line", "word"], F.ox, hi, ti, xfn2 (⟨rfl, rfl, rfl, by decide +kernel, by decide +kernel, by decide +kernel, rfl, rfl⟩) rfl F ⟨_, rfl, rfl⟩ Z.free_super Z.xno_BadText_line Z.xno_BadText_word (fun _ _ _ => ⟨_, rfl⟩), ?_⟩, Z.glo_BadText⟩
  obtain ⟨oc, od, kV, doc, pm, an, cda, ct, osl, cc, cl, cld, csl, ccl, cdd, vs, ccs, file, tf, rfl, _⟩ := F.ex
  exact .all fun us hl => match us, hl with | [_, _, _], _ => rfl
theorem xmk_BadTick {X : Cx} (Z : Fx X.prog X.w X.K X.mg) : XMk X "BadTick" "BadTick" ["part"] := by
  obtain ⟨⟨fd, F, _⟩, hi, ti⟩ := Z.xf_BadTick
  refine ⟨⟨_, fd, ["self", "part"], F.ox, hi, ti, xfn1 (⟨rfl, rfl, rfl, by decide +kernel, by decide +kernel, by decide +kernel, rfl, rfl⟩) rfl F ⟨_, rfl, rfl⟩ Z.free_super Z.xno_BadTick_part (fun _ _ _ => ⟨_, rfl⟩), ?_⟩, Z.glo_BadTick⟩
  obtain ⟨oc, od, kV, doc, pm, an, cda, ct, osl, cc, cl, cld, csl, ccl, cdd, vs, ccs, file, tf, rfl, _⟩ := F.ex
  exact .all fun us hl => match us, hl with | [_, _], _ => rfl
theorem xmk_NoPhase {X : Cx} (Z : Fx X.prog X.w X.K X.mg) : XMk X "NoPhase" "NoPhase" ["at"] := by
  obtain ⟨⟨fd, F, _⟩, hi, ti⟩ := Z.xf_NoPhase
  refine ⟨⟨_, fd, ["self", "at"], F.ox, hi, ti, xfn1 (⟨rfl, rfl, rfl, by decide +kernel, by decide +kernel, by decide +kernel, rfl, rfl⟩) rfl F ⟨_, rfl, rfl⟩ Z.free_super Z.xno_NoPhase_at (fun _ _ _ => ⟨_, rfl⟩), ?_⟩, Z.glo_NoPhase⟩
  obtain ⟨oc, od, kV, doc, pm, an, cda, ct, osl, cc, cl, cld, csl, ccl, cdd, vs, ccs, file, tf, rfl, _⟩ := F.ex
  exact .all fun us hl => match us, hl with | [_, _], _ => rfl
theorem xmk_TooMany {X : Cx} (Z : Fx X.prog X.w X.K X.mg) : XMk X "TooMany" "TooMany" ["what", "most"] := by
  obtain ⟨⟨fd, F, _⟩, hi, ti⟩ := Z.xf_TooMany
  refine ⟨⟨_, fd, ["self", "what", "most"], F.ox, hi, ti, xfn2 (⟨rfl, rfl, rfl, by decide +kernel, by decide +kernel, by decide +kernel, rfl, rfl⟩) rfl F ⟨_, rfl, rfl⟩ Z.free_super Z.xno_TooMany_what Z.xno_TooMany_most (fun _ _ _ => ⟨_, rfl⟩), ?_⟩, Z.glo_TooMany⟩
  obtain ⟨oc, od, kV, doc, pm, an, cda, ct, osl, cc, cl, cld, csl, ccl, cdd, vs, ccs, file, tf, rfl, _⟩ := F.ex
  exact .all fun us hl => match us, hl with | [_, _, _], _ => rfl
theorem sc_need_plan : FnScope N_need_plan ["value"] (defScope s_need_plan) := ⟨rfl, rfl, rfl, by decide +kernel, rfl, by decide +kernel, by decide +kernel⟩
theorem w_need_plan (Z : Fx P w K mg) {f : Addr} {cdv : Value} {A : Around} {outer : List Env} {s : Shared} {H : Hp} {E : XK} (cx : Ctx P w K mg base N_need_plan (defScope s_need_plan) 3 (cxOf (L2.CX P w) P w K mg base N_need_plan "need_plan" (defScope s_need_plan) f cdv A outer s H E) E) :
    ∃ ts, ASs K (cxOf (L2.CX P w) P w K mg base N_need_plan "need_plan" (defScope s_need_plan) f cdv A outer s H E) E (defBody s_need_plan) ts g_need_plan := ⟨_, (ass_one (as_if (at_not (at_val (ae_isi Z.isf (tab_ok_Plan Z) (.own _) Z.free_isinstance (av 0) (pe_glob rfl Z.glo_Plan rfl)))) (ass_one (as_raise (xmk_BadBench Z) (cx.room.mono (by decide)) cx.tk (aa_cons ae_str aa_nil))) ass_nil))⟩
theorem ok_need_plan (Z : Fx P w K mg) : Ok P w K mg base 4 (He.ga K "need_plan_bench") m_need_plan := by
  obtain ⟨fd, F⟩ := Z.d_need_plan
  exact ⟨⟨fd, ["value"], fn_ok F sc_need_plan fun cdv A outer s H E cx => w_need_plan Z cx, F.bindsN fun _ _ _ _ _ _ us hl => match us, hl with | [_], _ => rfl⟩, F.kp⟩
theorem sc_Bench___init__ : FnScope N_Bench___init__ ["self", "plan"] (defScope s_Bench___init__) := ⟨rfl, rfl, rfl, by decide +kernel, rfl, by decide +kernel, by decide +kernel⟩
theorem w_Bench___init__ (Z : Fx P w K mg) {f : Addr} {cdv : Value} {A : Around} {outer : List Env} {s : Shared} {H : Hp} {E : XK} (cx : Ctx P w K mg base N_Bench___init__ (defScope s_Bench___init__) 4 (cxOf (L2.CX P w) P w K mg base N_Bench___init__ "Bench.__init__" (defScope s_Bench___init__) f cdv A outer s H E) E) :
    ∃ ts, ASs K (cxOf (L2.CX P w) P w K mg base N_Bench___init__ "Bench.__init__" (defScope s_Bench___init__) f cdv A outer s H E) E (defBody s_Bench___init__) ts g_Bench___init__ := ⟨_, (ass_cons (as_expr (ae_call (cal_of (ok_need_plan Z) Z.glo_need_plan_bench) (cx.room.mono (by decide)) cx.px (aa_cons (av 1) aa_nil)))
    (ass_cons (as_newF (av 0) (av 1) Z.cls_Bench Z.noat_Bench_own_now)
    (ass_one (as_newF (av 0) (ae_lstM aa_nil) Z.cls_Bench Z.noat_Bench_past))))⟩
theorem ok_Bench___init__ (Z : Fx P w K mg) : Ok P w K mg base 5 (He.ma K (He.ga K "Bench") "__init__") m_Bench___init__ := by
  obtain ⟨fd, F⟩ := Z.d_Bench___init__
  exact ⟨⟨fd, ["self", "plan"], fn_ok F sc_Bench___init__ fun cdv A outer s H E cx => w_Bench___init__ Z cx, F.bindsN fun _ _ _ _ _ _ us hl => match us, hl with | [_, _], _ => rfl⟩, F.kp⟩
theorem mkc_Bench {X : Cx} {E : XK} (Z : Fx X.prog X.w X.K X.mg) (px : Passes (L2.CX X.prog X.w) X E) : MkC X 5 E "Bench" "Bench" [] m_Bench___init__ := ⟨⟨_, Z.mk_Bench, (let ⟨_, _, F, hb⟩ := (ok_Bench___init__ (base := X.base) Z).ok; fna_of F hb)⟩, Z.glo_Bench, px⟩
theorem sc_Bench___len__ : FnScope N_Bench___len__ ["self"] (defScope s_Bench___len__) := ⟨rfl, rfl, rfl, by decide +kernel, rfl, by decide +kernel, by decide +kernel⟩
theorem w_Bench___len__ (Z : Fx P w K mg) {f : Addr} {cdv : Value} {A : Around} {outer : List Env} {s : Shared} {H : Hp} {E : XK} (cx : Ctx P w K mg base N_Bench___len__ (defScope s_Bench___len__) 0 (cxOf (L2.CX P w) P w K mg base N_Bench___len__ "Bench.__len__" (defScope s_Bench___len__) f cdv A outer s H E) E) :
    ∃ ts, ASs K (cxOf (L2.CX P w) P w K mg base N_Bench___len__ "Bench.__len__" (defScope s_Bench___len__) f cdv A outer s H E) E (defBody s_Bench___len__) ts g_Bench___len__ := ⟨_, (ass_one (as_ret (ae_blt call_len cd_len Z.free_len (aa_cons (ae_fld (i := 1) (av 0) Z.cls_Bench Z.noat_Bench_past) aa_nil))))⟩
theorem ok_Bench___len__ (Z : Fx P w K mg) : Mt P w K mg base 1 "Bench" "__len__" m_Bench___len__ := by
  obtain ⟨fd, F⟩ := Z.d_Bench___len__
  exact ⟨⟨⟨fd, ["self"], fn_ok F sc_Bench___len__ fun cdv A outer s H E cx => w_Bench___len__ Z cx, F.bindsN fun _ _ _ _ _ _ us hl => match us, hl with | [_], _ => rfl⟩, F.kp⟩, Z.cls_Bench, Z.me_Bench___len__, Z.fi_Bench___len__⟩
theorem sc_Bench_now : FnScope N_Bench_now ["self"] (defScope s_Bench_now) := ⟨rfl, rfl, rfl, by decide +kernel, rfl, by decide +kernel, by decide +kernel⟩
theorem w_Bench_now (Z : Fx P w K mg) {f : Addr} {cdv : Value} {A : Around} {outer : List Env} {s : Shared} {H : Hp} {E : XK} (cx : Ctx P w K mg base N_Bench_now (defScope s_Bench_now) 0 (cxOf (L2.CX P w) P w K mg base N_Bench_now "Bench.now" (defScope s_Bench_now) f cdv A outer s H E) E) :
    ∃ ts, ASs K (cxOf (L2.CX P w) P w K mg base N_Bench_now "Bench.now" (defScope s_Bench_now) f cdv A outer s H E) E (defBody s_Bench_now) ts g_Bench_now := ⟨_, (ass_one (as_ret (ae_fld (i := 0) (av 0) Z.cls_Bench Z.noat_Bench_own_now)))⟩
theorem ok_Bench_now (Z : Fx P w K mg) : Ok P w K mg base 1 (prA K "Bench" "now") m_Bench_now := by
  obtain ⟨fd, F⟩ := Z.d_Bench_now
  exact ⟨⟨fd, ["self"], fn_ok F sc_Bench_now fun cdv A outer s H E cx => w_Bench_now Z cx, F.bindsN fun _ _ _ _ _ _ us hl => match us, hl with | [_], _ => rfl⟩, F.kp⟩
theorem sc_sums_text : FnScope N_sums_text ["sums"] (defScope s_sums_text) := ⟨rfl, rfl, rfl, by decide +kernel, rfl, by decide +kernel, by decide +kernel⟩
theorem w_sums_text (Z : Fx P w K mg) {f : Addr} {cdv : Value} {A : Around} {outer : List Env} {s : Shared} {H : Hp} {E : XK} (cx : Ctx P w K mg base N_sums_text (defScope s_sums_text) 0 (cxOf (L2.CX P w) P w K mg base N_sums_text "sums_text" (defScope s_sums_text) f cdv A outer s H E) E) :
    ∃ ts, ASs K (cxOf (L2.CX P w) P w K mg base N_sums_text "sums_text" (defScope s_sums_text) f cdv A outer s H E) E (defBody s_sums_text) ts g_sums_text := ⟨_, (ass_cons (as_if (at_cmp op_eq od_eqS (ae_blt call_len cd_len Z.free_len (aa_cons (av 0) aa_nil)) ae_int (nomark _)) (ass_one (as_ret ae_str)) ass_nil)
    (ass_one (as_ret (ae_bm F.plainAttrs_str F.slot_str_join F.type_str_join mt_join md_join ae_str (aa_cons (ae_lc (own := [("ages", 2)]) sc_sums_text.nd (ai_tup (av 0)) rfl (fun s H C cl fp => (ag_name 2 sc_sums_text.nd)) (fun s H C cl fp => ats_nil) (fun s H C cl fp => (ae_bm F.plainAttrs_str F.slot_str_join F.type_str_join mt_join md_join ae_str (aa_cons (ae_lc (own := [("age", 1)]) sc_sums_text.nd (ai_tup (av 2)) rfl (fun s H C cl fp => (ag_name 1 sc_sums_text.nd)) (fun s H C cl fp => ats_nil) (fun s H C cl fp => (ae_ty call_str_int cd_str Z.free_str (aa_cons (av 1) aa_nil)))) aa_nil)))) aa_nil)))))⟩
theorem ok_sums_text (Z : Fx P w K mg) : Ok P w K mg base 1 (He.ga K "sums_text") m_sums_text := by
  obtain ⟨fd, F⟩ := Z.d_sums_text
  exact ⟨⟨fd, ["sums"], fn_ok F sc_sums_text fun cdv A outer s H E cx => w_sums_text Z cx, F.bindsN fun _ _ _ _ _ _ us hl => match us, hl with | [_], _ => rfl⟩, F.kp⟩
theorem sc_Tick___str__ : FnScope N_Tick___str__ ["self"] (defScope s_Tick___str__) := ⟨rfl, rfl, rfl, by decide +kernel, rfl, by decide +kernel, by decide +kernel⟩
theorem w_Tick___str__ (Z : Fx P w K mg) {f : Addr} {cdv : Value} {A : Around} {outer : List Env} {s : Shared} {H : Hp} {E : XK} (cx : Ctx P w K mg base N_Tick___str__ (defScope s_Tick___str__) 1 (cxOf (L2.CX P w) P w K mg base N_Tick___str__ "Tick.__str__" (defScope s_Tick___str__) f cdv A outer s H E) E) :
    ∃ ts, ASs K (cxOf (L2.CX P w) P w K mg base N_Tick___str__ "Tick.__str__" (defScope s_Tick___str__) f cdv A outer s H E) E (defBody s_Tick___str__) ts g_Tick___str__ := ⟨_, (ass_one (as_ret (ae_joined rfl (AJ.cons (ae_fmt (ae_if (at_val (ae_fld (i := 1) (av 0) Z.cls_Tick Z.noat_Tick_mute)) ae_str ae_str)) (AJ.cons (ae_fmt (ae_call (cal_of (ok_sums_text Z) Z.glo_sums_text) (cx.room.mono (by decide)) cx.px (aa_cons (ae_fld (i := 0) (av 0) Z.cls_Tick Z.noat_Tick_sums) aa_nil))) AJ.nil)))))⟩
theorem ok_Tick___str__ (Z : Fx P w K mg) : Mt P w K mg base 2 "Tick" "__str__" m_Tick___str__ := by
  obtain ⟨fd, F⟩ := Z.d_Tick___str__
  exact ⟨⟨⟨fd, ["self"], fn_ok F sc_Tick___str__ fun cdv A outer s H E cx => w_Tick___str__ Z cx, F.bindsN fun _ _ _ _ _ _ us hl => match us, hl with | [_], _ => rfl⟩, F.kp⟩, Z.cls_Tick, Z.me_Tick___str__, Z.fi_Tick___str__⟩
theorem sc_Plan___str__ : FnScope N_Plan___str__ ["self"] (defScope s_Plan___str__) := ⟨rfl, rfl, rfl, by decide +kernel, rfl, by decide +kernel, by decide +kernel⟩
theorem w_Plan___str__ (Z : Fx P w K mg) {f : Addr} {cdv : Value} {A : Around} {outer : List Env} {s : Shared} {H : Hp} {E : XK} (cx : Ctx P w K mg base N_Plan___str__ (defScope s_Plan___str__) 4 (cxOf (L2.CX P w) P w K mg base N_Plan___str__ "Plan.__str__" (defScope s_Plan___str__) f cdv A outer s H E) E) :
    ∃ ts, ASs K (cxOf (L2.CX P w) P w K mg base N_Plan___str__ "Plan.__str__" (defScope s_Plan___str__) f cdv A outer s H E) E (defBody s_Plan___str__) ts g_Plan___str__ := ⟨_, (ass_one (as_ret (ae_bm F.plainAttrs_str F.slot_str_join F.type_str_join mt_join md_join ae_str (aa_cons (ae_lc (own := [("tick", 1)]) sc_Plan___str__.nd (ai_tup (ae_fld (i := 0) (av 0) Z.cls_Plan Z.noat_Plan_own_ticks)) rfl (fun s H C cl fp => (ag_name 1 sc_Plan___str__.nd)) (fun s H C cl fp => ats_nil) (fun s H C cl fp => (ae_strO (dun_of (ok_Tick___str__ Z) pass_e0) (Room.in1 (Room.in1 (cx.room.mono (by decide)))) Z.free_str (aa_cons (av 1) aa_nil)))) aa_nil))))⟩
theorem ok_Plan___str__ (Z : Fx P w K mg) : Mt P w K mg base 5 "Plan" "__str__" m_Plan___str__ := by
  obtain ⟨fd, F⟩ := Z.d_Plan___str__
  exact ⟨⟨⟨fd, ["self"], fn_ok F sc_Plan___str__ fun cdv A outer s H E cx => w_Plan___str__ Z cx, F.bindsN fun _ _ _ _ _ _ us hl => match us, hl with | [_], _ => rfl⟩, F.kp⟩, Z.cls_Plan, Z.me_Plan___str__, Z.fi_Plan___str__⟩
theorem sc_Plan___init__ : FnScope N_Plan___init__ ["self", "ticks"] (defScope s_Plan___init__) := ⟨rfl, rfl, rfl, by decide +kernel, rfl, by decide +kernel, by decide +kernel⟩
theorem w_Plan___init__ (Z : Fx P w K mg) {f : Addr} {cdv : Value} {A : Around} {outer : List Env} {s : Shared} {H : Hp} {E : XK} (cx : Ctx P w K mg base N_Plan___init__ (defScope s_Plan___init__) 3 (cxOf (L2.CX P w) P w K mg base N_Plan___init__ "Plan.__init__" (defScope s_Plan___init__) f cdv A outer s H E) E) :
    ∃ ts, ASs K (cxOf (L2.CX P w) P w K mg base N_Plan___init__ "Plan.__init__" (defScope s_Plan___init__) f cdv A outer s H E) E (defBody s_Plan___init__) ts g_Plan___init__ := ⟨_, (ass_cons (as_for cx.own (ai_enumT rfl Z.free_enumerate (aa_cons (av 1) aa_nil)) (ag_tup (ags_cons (ag_name 2 sc_Plan___init__.nd) (ags_cons (ag_name 3 sc_Plan___init__.nd) ags_nil))) (ass_one (as_if (at_not (at_val (ae_isi Z.isf (tab_ok_Tick Z) (.own _) Z.free_isinstance (av 3) (pe_glob rfl Z.glo_Tick rfl)))) (ass_one (as_raise (xmk_BadPlan Z) (cx.room.mono (by decide)) cx.tk (aa_cons (av 2) aa_nil))) ass_nil)))
    (ass_cons (as_if (at_cmp op_eq od_eqS (ae_blt call_len cd_len Z.free_len (aa_cons (av 1) aa_nil)) ae_int (nomark _)) (ass_one (as_raise (xmk_BadPlan Z) (cx.room.mono (by decide)) cx.tk (aa_cons ae_str aa_nil))) ass_nil)
    (ass_cons (as_if (at_cmp op_gt od_gt (ae_blt call_len cd_len Z.free_len (aa_cons (av 1) aa_nil)) (ae_globI Z.int_MOST_PHASES) (nomark _)) (ass_one (as_raise (xmk_TooMany Z) (cx.room.mono (by decide)) cx.tk (aa_cons ae_str (aa_cons (ae_globI Z.int_MOST_PHASES) aa_nil)))) ass_nil)
    (ass_one (as_newF (av 0) (ae_ty call_tuple_of cd_tuple Z.free_tuple (aa_cons (av 1) aa_nil)) Z.cls_Plan Z.noat_Plan_own_ticks)))))⟩
theorem ok_Plan___init__ (Z : Fx P w K mg) : FnA P w K mg base 4 (He.ma K (He.ga K "Plan") "__init__") [] m_Plan___init__ := by
  obtain ⟨fd, F⟩ := Z.d_Plan___init__
  refine fna_star (psA := ["self"]) (pv := "ticks") (n := 1) F sc_Plan___init__ rfl (fun kV doc pm an cdv ct us rest us2 h1 h2 => ?_) fun cdv A outer s H E cx => w_Plan___init__ Z cx
  match us, h1, us2, h2 with
  | [a], _, [], _ => cases rest <;> rfl
theorem mkc_Plan {X : Cx} {E : XK} (Z : Fx X.prog X.w X.K X.mg) (px : Passes (L2.CX X.prog X.w) X E) : MkC X 4 E "Plan" "Plan" [] m_Plan___init__ := ⟨⟨_, Z.mk_Plan, (ok_Plan___init__ Z)⟩, Z.glo_Plan, px⟩
theorem sc_is_integer : FnScope N_is_integer ["value"] (defScope s_is_integer) := ⟨rfl, rfl, rfl, by decide +kernel, rfl, by decide +kernel, by decide +kernel⟩
theorem w_is_integer (Z : Fx P w K mg) {f : Addr} {cdv : Value} {A : Around} {outer : List Env} {s : Shared} {H : Hp} {E : XK} (cx : Ctx P w K mg base N_is_integer (defScope s_is_integer) 0 (cxOf (L2.CX P w) P w K mg base N_is_integer "is_integer" (defScope s_is_integer) f cdv A outer s H E) E) :
    ∃ ts, ASs K (cxOf (L2.CX P w) P w K mg base N_is_integer "is_integer" (defScope s_is_integer) f cdv A outer s H E) E (defBody s_is_integer) ts g_is_integer := ⟨_, (ass_one (as_ret (ae_and (ae_isi Z.isf (tab_ok_int Z) (.ty _) Z.free_isinstance (av 0) (pe_bltn (v := .ty "int") (u := .type "int") rfl Z.free_int rfl rfl)) (ae_one (ae_not (ae_isi Z.isf (tab_ok_bool Z) (.ty _) Z.free_isinstance (av 0) (pe_bltn (v := .ty "bool") (u := .type "bool") rfl Z.free_bool rfl rfl)))))))⟩
theorem ok_is_integer (Z : Fx P w K mg) : Ok P w K mg base 1 (He.ga K "is_integer") m_is_integer := by
  obtain ⟨fd, F⟩ := Z.d_is_integer
  exact ⟨⟨fd, ["value"], fn_ok F sc_is_integer fun cdv A outer s H E cx => w_is_integer Z cx, F.bindsN fun _ _ _ _ _ _ us hl => match us, hl with | [_], _ => rfl⟩, F.kp⟩
theorem sc_is_within : FnScope N_is_within ["value", "least", "most"] (defScope s_is_within) := ⟨rfl, rfl, rfl, by decide +kernel, rfl, by decide +kernel, by decide +kernel⟩
theorem w_is_within (Z : Fx P w K mg) {f : Addr} {cdv : Value} {A : Around} {outer : List Env} {s : Shared} {H : Hp} {E : XK} (cx : Ctx P w K mg base N_is_within (defScope s_is_within) 1 (cxOf (L2.CX P w) P w K mg base N_is_within "is_within" (defScope s_is_within) f cdv A outer s H E) E) :
    ∃ ts, ASs K (cxOf (L2.CX P w) P w K mg base N_is_within "is_within" (defScope s_is_within) f cdv A outer s H E) E (defBody s_is_within) ts g_is_within := ⟨_, (ass_one (as_ret (ae_and (ae_call (cal_of (ok_is_integer Z) Z.glo_is_integer) (cx.room.mono (by decide)) cx.px (aa_cons (av 0) aa_nil)) (ae_one (ae_chain op_le od_le op_le od_le (av 1) (av 0) (av 2))))))⟩
theorem ok_is_within (Z : Fx P w K mg) : Ok P w K mg base 2 (He.ga K "is_within") m_is_within := by
  obtain ⟨fd, F⟩ := Z.d_is_within
  exact ⟨⟨fd, ["value", "least", "most"], fn_ok F sc_is_within fun cdv A outer s H E cx => w_is_within Z cx, F.bindsN fun _ _ _ _ _ _ us hl => match us, hl with | [_, _, _], _ => rfl⟩, F.kp⟩
theorem sc_is_age : FnScope N_is_age ["value"] (defScope s_is_age) := ⟨rfl, rfl, rfl, by decide +kernel, rfl, by decide +kernel, by decide +kernel⟩
theorem w_is_age (Z : Fx P w K mg) {f : Addr} {cdv : Value} {A : Around} {outer : List Env} {s : Shared} {H : Hp} {E : XK} (cx : Ctx P w K mg base N_is_age (defScope s_is_age) 2 (cxOf (L2.CX P w) P w K mg base N_is_age "is_age" (defScope s_is_age) f cdv A outer s H E) E) :
    ∃ ts, ASs K (cxOf (L2.CX P w) P w K mg base N_is_age "is_age" (defScope s_is_age) f cdv A outer s H E) E (defBody s_is_age) ts g_is_age := ⟨_, (ass_one (as_ret (ae_call (cal_of (ok_is_within Z) Z.glo_is_within) (cx.room.mono (by decide)) cx.px (aa_cons (av 0) (aa_cons ae_int (aa_cons (ae_globI Z.int_MOST_AGE) aa_nil))))))⟩
theorem ok_is_age (Z : Fx P w K mg) : Ok P w K mg base 3 (He.ga K "is_age") m_is_age := by
  obtain ⟨fd, F⟩ := Z.d_is_age
  exact ⟨⟨fd, ["value"], fn_ok F sc_is_age fun cdv A outer s H E cx => w_is_age Z cx, F.bindsN fun _ _ _ _ _ _ us hl => match us, hl with | [_], _ => rfl⟩, F.kp⟩
theorem sc_is_sum : FnScope N_is_sum ["value"] (defScope s_is_sum) := ⟨rfl, rfl, rfl, by decide +kernel, rfl, by decide +kernel, by decide +kernel⟩
theorem w_is_sum (Z : Fx P w K mg) {f : Addr} {cdv : Value} {A : Around} {outer : List Env} {s : Shared} {H : Hp} {E : XK} (cx : Ctx P w K mg base N_is_sum (defScope s_is_sum) 3 (cxOf (L2.CX P w) P w K mg base N_is_sum "is_sum" (defScope s_is_sum) f cdv A outer s H E) E) :
    ∃ ts, ASs K (cxOf (L2.CX P w) P w K mg base N_is_sum "is_sum" (defScope s_is_sum) f cdv A outer s H E) E (defBody s_is_sum) ts g_is_sum := ⟨_, (ass_cons (as_if (AW.at (aw_or (at_not (at_val (ae_isi Z.isf (tab_ok_tuple Z) (.ty _) Z.free_isinstance (av 0) (pe_bltn (v := .ty "tuple") (u := .type "tuple") rfl Z.free_tuple rfl rfl)))) (aw_or (at_cmp op_eq od_eqS (ae_blt call_len cd_len Z.free_len (aa_cons (av 0) aa_nil)) ae_int (nomark _)) (aw_or1 (at_not (at_val (ae_blt (cr_all rfl) cd_all Z.free_all (aa_cons (ae_lc (own := [("age", 1)]) sc_is_sum.nd (ai_tup (av 0)) rfl (fun s H C cl fp => (ag_name 1 sc_is_sum.nd)) (fun s H C cl fp => ats_nil) (fun s H C cl fp => (ae_call (cal_of (ok_is_age Z) Z.glo_is_age) (cx.room.mono (by decide)) pass_e0 (aa_cons (av 1) aa_nil)))) aa_nil)))))))) (ass_one (as_ret ae_bl)) ass_nil)
    (ass_one (as_ret (ae_blt (cr_all rfl) cd_all Z.free_all (aa_cons (ae_lc (own := [("at", 2)]) sc_is_sum.nd (ai_range1 rfl Z.free_range (aa_cons (ae_bin op_sub od_sub (ae_blt call_len cd_len Z.free_len (aa_cons (av 0) aa_nil)) ae_int) aa_nil)) rfl (fun s H C cl fp => (ag_name 2 sc_is_sum.nd)) (fun s H C cl fp => ats_nil) (fun s H C cl fp => (ae_cmp op_lt od_lt (ae_ix (av 0) (av 2) (by intro _ _; rfl)) (ae_ix (av 0) (ae_bin op_add od_add (av 2) ae_int) (by intro _ _; rfl)) (nomark _)))) aa_nil)))))⟩
theorem ok_is_sum (Z : Fx P w K mg) : Ok P w K mg base 4 (He.ga K "is_sum") m_is_sum := by
  obtain ⟨fd, F⟩ := Z.d_is_sum
  exact ⟨⟨fd, ["value"], fn_ok F sc_is_sum fun cdv A outer s H E cx => w_is_sum Z cx, F.bindsN fun _ _ _ _ _ _ us hl => match us, hl with | [_], _ => rfl⟩, F.kp⟩
theorem sc_Tick___init__ : FnScope N_Tick___init__ ["self", "mute", "sums"] (defScope s_Tick___init__) := ⟨rfl, rfl, rfl, by decide +kernel, rfl, by decide +kernel, by decide +kernel⟩
theorem w_Tick___init__ (Z : Fx P w K mg) {f : Addr} {cdv : Value} {A : Around} {outer : List Env} {s : Shared} {H : Hp} {E : XK} (cx : Ctx P w K mg base N_Tick___init__ (defScope s_Tick___init__) 4 (cxOf (L2.CX P w) P w K mg base N_Tick___init__ "Tick.__init__" (defScope s_Tick___init__) f cdv A outer s H E) E) :
    ∃ ts, ASs K (cxOf (L2.CX P w) P w K mg base N_Tick___init__ "Tick.__init__" (defScope s_Tick___init__) f cdv A outer s H E) E (defBody s_Tick___init__) ts g_Tick___init__ := ⟨_, (ass_cons (as_for cx.own (ai_enumT rfl Z.free_enumerate (aa_cons (av 2) aa_nil)) (ag_tup (ags_cons (ag_name 3 sc_Tick___init__.nd) (ags_cons (ag_name 4 sc_Tick___init__.nd) ags_nil))) (ass_one (as_if (AW.at (aw_or (at_not (at_val (ae_call (cal_of (ok_is_sum Z) Z.glo_is_sum) (cx.room.mono (by decide)) cx.px (aa_cons (av 4) aa_nil)))) (aw_or1 (at_cmp (op_inT (neg := false) (by exact un65 cx.room)) od_inT (av 4) (ae_slice (av 2) ao_none (ao_some (av 3))) rfl)))) (ass_one (as_raise (xmk_BadTick Z) (cx.room.mono (by decide)) cx.tk (aa_cons (av 3) aa_nil))) ass_nil)))
    (ass_cons (as_if (at_cmp op_gt od_gt (ae_blt call_len cd_len Z.free_len (aa_cons (av 2) aa_nil)) (ae_globI Z.int_MOST_SUMS) (nomark _)) (ass_one (as_raise (xmk_TooMany Z) (cx.room.mono (by decide)) cx.tk (aa_cons ae_str (aa_cons (ae_globI Z.int_MOST_SUMS) aa_nil)))) ass_nil)
    (ass_cons (as_if (AW.at (aw_or (at_not (at_val (ae_isi Z.isf (tab_ok_bool Z) (.ty _) Z.free_isinstance (av 1) (pe_bltn (v := .ty "bool") (u := .type "bool") rfl Z.free_bool rfl rfl)))) (aw_or1 (AW.at (aw_and (at_val (av 1)) (aw_and1 (at_val (ae_blt (cr_any rfl) cd_any Z.free_any (aa_cons (ae_lc (own := [("ages", 4)]) sc_Tick___init__.nd (ai_tup (av 2)) rfl (fun s H C cl fp => (ag_name 4 sc_Tick___init__.nd)) (fun s H C cl fp => ats_nil) (fun s H C cl fp => (ae_cmp op_in_seq od_inF ae_int (av 4) rfl))) aa_nil))))))))) (ass_one (as_raise (xmk_BadTick Z) (cx.room.mono (by decide)) cx.tk (aa_cons ae_str aa_nil))) ass_nil)
    (ass_cons (as_newF (av 0) (ae_ty call_tuple_of cd_tuple Z.free_tuple (aa_cons (av 2) aa_nil)) Z.cls_Tick Z.noat_Tick_sums)
    (ass_one (as_newF (av 0) (av 1) Z.cls_Tick Z.noat_Tick_mute))))))⟩
theorem ok_Tick___init__ (Z : Fx P w K mg) : FnA P w K mg base 5 (He.ma K (He.ga K "Tick") "__init__") ["mute"] m_Tick___init__ := by
  obtain ⟨fd, F⟩ := Z.d_Tick___init__
  refine fna_star (psA := ["self", "mute"]) (pv := "sums") (n := 1) F sc_Tick___init__ rfl (fun kV doc pm an cdv ct us rest us2 h1 h2 => ?_) fun cdv A outer s H E cx => w_Tick___init__ Z cx
  match us, h1, us2, h2 with
  | [a], _, [b], _ => cases rest <;> rfl
theorem mkc_Tick_mute {X : Cx} {E : XK} (Z : Fx X.prog X.w X.K X.mg) (px : Passes (L2.CX X.prog X.w) X E) : MkC X 5 E "Tick" "Tick" ["mute"] m_Tick___init__ := ⟨⟨_, Z.mk_Tick, (ok_Tick___init__ Z)⟩, Z.glo_Tick, px⟩
theorem sc_upcoming : FnScope N_upcoming ["words", "spot"] (defScope s_upcoming) := ⟨rfl, rfl, rfl, by decide +kernel, rfl, by decide +kernel, by decide +kernel⟩
theorem w_upcoming (Z : Fx P w K mg) {f : Addr} {cdv : Value} {A : Around} {outer : List Env} {s : Shared} {H : Hp} {E : XK} (cx : Ctx P w K mg base N_upcoming (defScope s_upcoming) 0 (cxOf (L2.CX P w) P w K mg base N_upcoming "upcoming" (defScope s_upcoming) f cdv A outer s H E) E) :
    ∃ ts, ASs K (cxOf (L2.CX P w) P w K mg base N_upcoming "upcoming" (defScope s_upcoming) f cdv A outer s H E) E (defBody s_upcoming) ts g_upcoming := ⟨_, (ass_one (as_ret (ae_if (at_cmp op_lt od_lt (av 1) (ae_blt call_len cd_len Z.free_len (aa_cons (av 0) aa_nil)) (nomark _)) (ae_ix (av 0) (av 1) (by intro _ _; rfl)) ae_str)))⟩
theorem ok_upcoming (Z : Fx P w K mg) : Ok P w K mg base 1 (He.ga K "upcoming") m_upcoming := by
  obtain ⟨fd, F⟩ := Z.d_upcoming
  exact ⟨⟨fd, ["words", "spot"], fn_ok F sc_upcoming fun cdv A outer s H E cx => w_upcoming Z cx, F.bindsN fun _ _ _ _ _ _ us hl => match us, hl with | [_, _], _ => rfl⟩, F.kp⟩
theorem sc_read_sum : FnScope N_read_sum ["words", "spot", "is_mute"] (defScope s_read_sum) := ⟨rfl, rfl, rfl, by decide +kernel, rfl, by decide +kernel, by decide +kernel⟩
theorem w_read_sum (Z : Fx P w K mg) {f : Addr} {cdv : Value} {A : Around} {outer : List Env} {s : Shared} {H : Hp} {E : XK} (cx : Ctx P w K mg base N_read_sum (defScope s_read_sum) 3 (cxOf (L2.CX P w) P w K mg base N_read_sum "read_sum" (defScope s_read_sum) f cdv A outer s H E) E) :
    ∃ ts, ASs K (cxOf (L2.CX P w) P w K mg base N_read_sum "read_sum" (defScope s_read_sum) f cdv A outer s H E) E (defBody s_read_sum) ts g_read_sum := ⟨_, (ass_cons (as_set 3 sc_read_sum.nd (ae_tup aa_nil))
    (ass_cons (as_set 4 sc_read_sum.nd (ae_ty call_int1 cd_int Z.free_int (aa_cons (av 2) aa_nil)))
    (ass_cons (as_setLc 5 (own := [("number", 6)]) sc_read_sum.nd (ai_range1 rfl Z.free_range (aa_cons (ae_bin op_add od_add (ae_globI Z.int_MOST_AGE) ae_int) aa_nil)) rfl (fun s H C cl fp => (ag_name 6 sc_read_sum.nd)) (fun s H C cl fp => ats_nil) (fun s H C cl fp => (ae_ty call_str_int cd_str Z.free_str (aa_cons (av 6) aa_nil))) rfl)
    (ass_cons (as_while 12 cx.own (AW.at (aw_or (at_cmp op_eq od_eqS (ae_blt call_len cd_len Z.free_len (aa_cons (av 3) aa_nil)) ae_int (nomark _)) (aw_or1 (at_cmp op_in_seq od_inF (ae_call (cal_of (ok_upcoming Z) Z.glo_upcoming) (cx.room.mono (by decide)) cx.px (aa_cons (av 0) (aa_cons (av 1) aa_nil))) (av 5) rfl)))) (ass_cons (as_set 7 sc_read_sum.nd (ae_call (cal_of (ok_upcoming Z) Z.glo_upcoming) (cx.room.mono (by decide)) cx.px (aa_cons (av 0) (aa_cons (av 1) aa_nil))))
    (ass_cons (as_if (AW.at (aw_or (at_cmp op_notIn_seq od_inF (av 7) (av 5) rfl) (aw_or1 (at_cmp op_lt od_lt (ae_ty call_int_str cd_intS Z.free_int (aa_cons (av 7) aa_nil)) (av 4) (nomark _))))) (ass_one (as_raise (xmk_BadText Z) (cx.room.mono (by decide)) cx.tk (aa_cons ae_int (aa_cons (av 1) aa_nil)))) ass_nil)
    (ass_cons (as_set 3 sc_read_sum.nd (ae_tup (aa_star (av 3) (aa_cons (ae_ty call_int_str cd_intS Z.free_int (aa_cons (av 7) aa_nil)) aa_nil))))
    (ass_cons (as_set 4 sc_read_sum.nd (ae_bin op_add od_add (ae_ty call_int_str cd_intS Z.free_int (aa_cons (av 7) aa_nil)) ae_int))
    (ass_one (as_aug 1 sc_read_sum.nd ip_add ae_int)))))))
    (ass_one (as_ret (ae_tup (aa_cons (av 1) (aa_cons (av 3) aa_nil)))))))))⟩
theorem ok_read_sum (Z : Fx P w K mg) : Ok P w K mg base 4 (He.ga K "read_sum") m_read_sum := by
  obtain ⟨fd, F⟩ := Z.d_read_sum
  exact ⟨⟨fd, ["words", "spot", "is_mute"], fn_ok F sc_read_sum fun cdv A outer s H E cx => w_read_sum Z cx, F.bindsN fun _ _ _ _ _ _ us hl => match us, hl with | [_, _, _], _ => rfl⟩, F.kp⟩
theorem sc_read_tick : FnScope N_read_tick ["words", "spot"] (defScope s_read_tick) := ⟨rfl, rfl, rfl, by decide +kernel, rfl, by decide +kernel, by decide +kernel⟩
theorem w_read_tick (Z : Fx P w K mg) {f : Addr} {cdv : Value} {A : Around} {outer : List Env} {s : Shared} {H : Hp} {E : XK} (cx : Ctx P w K mg base N_read_tick (defScope s_read_tick) 6 (cxOf (L2.CX P w) P w K mg base N_read_tick "read_tick" (defScope s_read_tick) f cdv A outer s H E) E) :
    ∃ ts, ASs K (cxOf (L2.CX P w) P w K mg base N_read_tick "read_tick" (defScope s_read_tick) f cdv A outer s H E) E (defBody s_read_tick) ts g_read_tick := ⟨_, (ass_cons (as_set 2 sc_read_tick.nd (ae_cmp op_eq od_eqS (ae_call (cal_of (ok_upcoming Z) Z.glo_upcoming) (cx.room.mono (by decide)) cx.px (aa_cons (av 0) (aa_cons (av 1) aa_nil))) ae_str (nomark _)))
    (ass_cons (as_set 1 sc_read_tick.nd (ae_bin op_add od_add (av 1) (ae_ty call_int1 cd_int Z.free_int (aa_cons (av 2) aa_nil))))
    (ass_cons (as_set 3 sc_read_tick.nd (ae_lstM aa_nil))
    (ass_cons (as_if (at_cmp op_eq od_eqS (ae_call (cal_of (ok_upcoming Z) Z.glo_upcoming) (cx.room.mono (by decide)) cx.px (aa_cons (av 0) (aa_cons (av 1) aa_nil))) ae_str (nomark _)) (ass_one (as_ret (ae_tup (aa_cons (ae_bin op_add od_add (av 1) ae_int) (aa_cons (ae_mk0 (kp := false) (mkc_Tick_mute Z cx.px) (cx.room.mono (by decide)) (ak_cons (av 2) ak_nil) len_one) aa_nil))))) ass_nil)
    (ass_cons (as_while 8 cx.own (AW.at (aw_or (at_cmp op_eq od_eqS (ae_blt call_len cd_len Z.free_len (aa_cons (av 3) aa_nil)) ae_int (nomark _)) (aw_or1 (at_cmp op_eq od_eqS (ae_call (cal_of (ok_upcoming Z) Z.glo_upcoming) (cx.room.mono (by decide)) cx.px (aa_cons (av 0) (aa_cons (av 1) aa_nil))) ae_str (nomark _))))) (ass_cons (as_if (at_cmp op_eq od_eqS (ae_blt call_len cd_len Z.free_len (aa_cons (av 3) aa_nil)) (ae_globI Z.int_MOST_SUMS) (nomark _)) (ass_one (as_raise (xmk_BadText Z) (cx.room.mono (by decide)) cx.tk (aa_cons ae_int (aa_cons (av 1) aa_nil)))) ass_nil)
    (ass_cons (as_asg (ae_call (cal_of (ok_read_sum Z) Z.glo_read_sum) (cx.room.mono (by decide)) cx.px (aa_cons (av 0) (aa_cons (ae_bin op_add od_add (av 1) (ae_ty call_int1 cd_int Z.free_int (aa_cons (ae_cmp op_gt od_gt (ae_blt call_len cd_len Z.free_len (aa_cons (av 3) aa_nil)) ae_int (nomark _)) aa_nil))) (aa_cons (av 2) aa_nil)))) (ag_tup (ags_cons (ag_name 1 sc_read_tick.nd) (ags_cons (ag_name 4 sc_read_tick.nd) ags_nil))))
    (ass_cons (as_if (at_cmp (op_inD (by exact un65 cx.room)) od_inD (av 4) (av 3) rfl) (ass_one (as_raise (xmk_BadText Z) (cx.room.mono (by decide)) cx.tk (aa_cons ae_int (aa_cons (ae_bin op_sub od_sub (av 1) ae_int) aa_nil)))) ass_nil)
    (ass_one (as_expr (ae_bm F.plainAttrs_list F.slot_list_append F.type_list_append mt_append md_append (av 3) (aa_cons (av 4) aa_nil))))))))
    (ass_one (as_ret (ae_tup (aa_cons (av 1) (aa_cons (ae_mkS (kp := false) (mkc_Tick_mute Z cx.px) (cx.room.mono (by decide)) (av 3) (ak_cons (av 2) ak_nil) len_one) aa_nil))))))))))⟩
theorem ok_read_tick (Z : Fx P w K mg) : Ok P w K mg base 7 (He.ga K "read_tick") m_read_tick := by
  obtain ⟨fd, F⟩ := Z.d_read_tick
  exact ⟨⟨fd, ["words", "spot"], fn_ok F sc_read_tick fun cdv A outer s H E cx => w_read_tick Z cx, F.bindsN fun _ _ _ _ _ _ us hl => match us, hl with | [_, _], _ => rfl⟩, F.kp⟩
theorem sc_Plan_read : FnScope N_Plan_read ["cls", "text"] (defScope s_Plan_read) := ⟨rfl, rfl, rfl, by decide +kernel, rfl, by decide +kernel, by decide +kernel⟩
theorem w_Plan_read (Z : Fx P w K mg) {f : Addr} {cdv : Value} {A : Around} {outer : List Env} {s : Shared} {H : Hp} {E : XK} (cx : Ctx P w K mg base N_Plan_read (defScope s_Plan_read) 7 (cxOf (L2.CX P w) P w K mg base N_Plan_read "Plan.read" (defScope s_Plan_read) f cdv A outer s H E) E) :
    ∃ ts, ASs K (cxOf (L2.CX P w) P w K mg base N_Plan_read "Plan.read" (defScope s_Plan_read) f cdv A outer s H E) E (defBody s_Plan_read) ts g_Plan_read := ⟨_, (ass_cons (as_set 2 sc_Plan_read.nd (ae_if (at_val (ae_isi Z.isf (tab_ok_str Z) (.ty _) Z.free_isinstance (av 1) (pe_bltn (v := .ty "str") (u := .type "str") rfl Z.free_str rfl rfl))) (ae_bm F.plainAttrs_str F.slot_str_split F.type_str_split mt_split md_split (av 1) (aa_cons ae_str aa_nil)) (ae_lst (aa_cons ae_str aa_nil))))
    (ass_cons (as_asg (ae_call (cal_of (ok_read_tick Z) Z.glo_read_tick) (cx.room.mono (by decide)) cx.px (aa_cons (av 2) (aa_cons ae_int aa_nil))) (ag_tup (ags_cons (ag_name 3 sc_Plan_read.nd) (ags_cons (ag_name 4 sc_Plan_read.nd) ags_nil))))
    (ass_cons (as_set 5 sc_Plan_read.nd (ae_lstM (aa_cons (av 4) aa_nil)))
    (ass_cons (as_while 8 cx.own (at_cmp op_lt od_lt (av 3) (ae_blt call_len cd_len Z.free_len (aa_cons (av 2) aa_nil)) (nomark _)) (ass_cons (as_if (AW.at (aw_or (at_cmp op_ne od_neS (ae_ix (av 2) (av 3) (by intro _ _; rfl)) ae_str (nomark _)) (aw_or1 (at_cmp op_eq od_eqS (ae_blt call_len cd_len Z.free_len (aa_cons (av 5) aa_nil)) (ae_globI Z.int_MOST_PHASES) (nomark _))))) (ass_one (as_raise (xmk_BadText Z) (cx.room.mono (by decide)) cx.tk (aa_cons ae_int (aa_cons (av 3) aa_nil)))) ass_nil)
    (ass_cons (as_asg (ae_call (cal_of (ok_read_tick Z) Z.glo_read_tick) (cx.room.mono (by decide)) cx.px (aa_cons (av 2) (aa_cons (ae_bin op_add od_add (av 3) ae_int) aa_nil))) (ag_tup (ags_cons (ag_name 3 sc_Plan_read.nd) (ags_cons (ag_name 4 sc_Plan_read.nd) ags_nil))))
    (ass_one (as_expr (ae_bm F.plainAttrs_list F.slot_list_append F.type_list_append mt_append md_append (av 5) (aa_cons (av 4) aa_nil)))))))
    (ass_one (as_ret (ae_mkS (kp := false) (mkc_Plan Z cx.px) (cx.room.mono (by decide)) (av 5) ak_nil (fun _ _ _ _ h => by cases h; rfl))))))))⟩
theorem ok_Plan_read (Z : Fx P w K mg) : Ok P w K mg base 8 (cmA K "Plan" "read") m_Plan_read := by
  obtain ⟨fd, F⟩ := Z.d_Plan_read
  exact ⟨⟨fd, ["cls", "text"], fn_ok F sc_Plan_read fun cdv A outer s H E cx => w_Plan_read Z cx, F.bindsN fun _ _ _ _ _ _ us hl => match us, hl with | [_, _], _ => rfl⟩, F.kp⟩
theorem sc_Bench_undo : FnScope N_Bench_undo ["self"] (defScope s_Bench_undo) := ⟨rfl, rfl, rfl, by decide +kernel, rfl, by decide +kernel, by decide +kernel⟩
theorem w_Bench_undo (Z : Fx P w K mg) {f : Addr} {cdv : Value} {A : Around} {outer : List Env} {s : Shared} {H : Hp} {E : XK} (cx : Ctx P w K mg base N_Bench_undo (defScope s_Bench_undo) 0 (cxOf (L2.CX P w) P w K mg base N_Bench_undo "Bench.undo" (defScope s_Bench_undo) f cdv A outer s H E) E) :
    ∃ ts, ASs K (cxOf (L2.CX P w) P w K mg base N_Bench_undo "Bench.undo" (defScope s_Bench_undo) f cdv A outer s H E) E (defBody s_Bench_undo) ts g_Bench_undo := ⟨_, (ass_cons (as_if (at_cmp op_eq od_eqS (ae_blt call_len cd_len Z.free_len (aa_cons (ae_fld (i := 1) (av 0) Z.cls_Bench Z.noat_Bench_past) aa_nil)) ae_int (nomark _)) (ass_one (as_raise0 (x0_of Z.x0_Nothing Z.glo_Nothing) cx.tk)) ass_nil)
    (ass_cons (as_asg (ae_bm0 F.plainAttrs_list F.slot_list_pop F.type_list_pop mt_pop md_pop0 (ae_fld (i := 1) (av 0) Z.cls_Bench Z.noat_Bench_past)) (ag_tup (ags_cons (ag_name 1 sc_Bench_undo.nd) (ags_cons (ag_name 2 sc_Bench_undo.nd) ags_nil))))
    (ass_cons (as_setF 0 (av 0) (av 2) Z.cls_Bench Z.noat_Bench_own_now)
    (ass_one (as_ret (av 1))))))⟩
theorem ok_Bench_undo (Z : Fx P w K mg) : Mt P w K mg base 1 "Bench" "undo" m_Bench_undo := by
  obtain ⟨fd, F⟩ := Z.d_Bench_undo
  exact ⟨⟨⟨fd, ["self"], fn_ok F sc_Bench_undo fun cdv A outer s H E cx => w_Bench_undo Z cx, F.bindsN fun _ _ _ _ _ _ us hl => match us, hl with | [_], _ => rfl⟩, F.kp⟩, Z.cls_Bench, Z.me_Bench_undo, Z.fi_Bench_undo⟩
theorem sc__law_heard : FnScope N__law_heard ["_law_ask"] (defScope s__law_heard) := ⟨rfl, rfl, rfl, by decide +kernel, rfl, by decide +kernel, by decide +kernel⟩
theorem h_heard (Z : Fx P w K mg) : ∃ ts, ∀ (A : Around) (outer : List Env) (cdg : Value) (s : Shared) (H : Hp), ASs K (cxOf C8.CX0 P w K mg base N__law_heard "_law_heard" (defScope s__law_heard) (He.ga K "_law_heard") cdg A outer s H C8.E0).nox C8.E0 ((defBody s__law_heard).drop 2) ts g__law_heard := ⟨_, fun A outer cdg s H => (ass_cons (as_if (at_val (ae_blt call_isX (cd_isX (isx_BadBench_NoPhase Z)) Z.free_isinstance (aa_cons (av 1) (aa_cons (ae_tup (aa_cons (ae_clsN Z.glo_BadBench) (aa_cons (ae_clsN Z.glo_NoPhase) aa_nil))) aa_nil)))) (ass_one (as_ret (ae_tup (aa_cons ae_str aa_nil)))) ass_nil)
    (ass_one (as_ret (ae_if (at_val (ae_blt call_isX (cd_isX (isx_Nothing Z)) Z.free_isinstance (aa_cons (av 1) (aa_cons (ae_clsN Z.glo_Nothing) aa_nil)))) (ae_tup (aa_cons ae_str aa_nil)) (ae_tup (aa_cons ae_str aa_nil))))))⟩
theorem aeh {X : Cx} {E : XK} {k : Nat} {maker : Str} {c P0 : Addr} {params : Arguments} {body : Expr} {scope : Scope} {p lpos pos : Pos} {el : Se} (Z : Fx X.prog X.w X.K X.mg) (gd : X.A.guards = some []) (TB : ∀ p ∈ csK X.K, LamX.TabB X.base X.mg p.1 p.2) (ht : PySem.W.tabIn X.K maker = some (c, P0)) (hr : Room (k + 2) X.A) (L : LamX.LamS X.env.scope scope)
    (hbody : ∀ E : XK, ∃ te, ∀ (A : Around) (outer : List Env) (s : Shared) (H : Hp) (f c' : Addr), A.guards = X.A.guards → Room k (A.deeper (LamX.lamEnv X scope s.heap.objs.size f c')) → AE X.K (LamX.lamCx X A outer s H E scope f c') E body te el)
    (hq : X.env.qual ++ "<lambda>" = maker ++ ".<locals>." ++ "<lambda>" := by rfl) (hm : maker ∈ lamNames := by decide) (hcode : X.env.code = .ref c := by rfl) (hg : Gl X "_law_heard" := by rfl) (hdef : defaultsOf params X.env = ([], []) := by rfl)
    (hbind : ∀ (q : Str) (cl : List (Str × Addr)) (pm cv ctv : Value), bindArgs (PySem.W.kla_fn "<lambda>" q params body scope cl pm cv ctv) ⟨[], []⟩ = pure [] := by intros; rfl) :
    AE X.K X E (.Call (.Name "_law_heard" p) [.Lambda params body scope lpos] [] pos) (LamX.tLam (tabsK X.K) (TH X.K (.ref (He.ga X.K "RepairError")) N__law_heard (Classical.choose (h_heard (base := X.base) Z))) fun E => Classical.choose (hbody E)) (sAsk m__law_heard el) := by
  obtain ⟨fd, F⟩ := Z.d__law_heard
  have cs := Classical.choose_spec (h_heard (base := X.base) Z)
  refine ae_asks (cat := xcat) (gr := g__law_heard) F (F.bindsN fun _ _ _ _ _ _ us hl => match us, hl with | [_], _ => rfl) sc__law_heard Z.glo__law_heard (by decide) rfl (.inl rfl)
    (fun cdg => asks_of (hrest := fun s H => (cs X.A X.stack cdg s H).pe) sc__law_heard.nd rfl rfl rfl rfl rfl rfl Z.glo_RepairError rfl)
    (cs X.A X.stack .none X.s_0 X.H_0).ev (cat_of Z.cat) (TB (c, P0) (List.mem_filterMap.mpr ⟨maker, hm, ht⟩)) hcode ?_ (fun p hp e => ?_) hr L hbody hg hdef hbind
  · rw [hq]
    exact List.mem_filterMap.mpr ⟨maker, hm, by rw [ht]; rfl⟩
  · rw [hq]
    exact tabU_of Z.tabU p hp (P0, maker ++ ".<locals>." ++ "<lambda>") (List.mem_filterMap.mpr ⟨maker, hm, by rw [ht]; rfl⟩) e
theorem sc__law_tick_text : FnScope N__law_tick_text ["_law_tick_here"] (defScope s__law_tick_text) := ⟨rfl, rfl, rfl, by decide +kernel, rfl, by decide +kernel, by decide +kernel⟩
theorem w__law_tick_text (Z : Fx P w K mg) {f : Addr} {cdv : Value} {A : Around} {outer : List Env} {s : Shared} {H : Hp} {E : XK} (cx : Ctx P w K mg base N__law_tick_text (defScope s__law_tick_text) 0 (cxOf (L2.CX P w) P w K mg base N__law_tick_text "_law_tick_text" (defScope s__law_tick_text) f cdv A outer s H E) E) :
    ∃ ts, ASs K (cxOf (L2.CX P w) P w K mg base N__law_tick_text "_law_tick_text" (defScope s__law_tick_text) f cdv A outer s H E) E (defBody s__law_tick_text) ts g__law_tick_text := ⟨_, (ass_cons (as_set 1 sc__law_tick_text.nd (ae_if (at_cmp (op_neD (by exact un64 cx.room)) od_neD (ae_ix (av 0) ae_int (by intro _ _; rfl)) (ae_lst aa_nil) (nomark _)) (ae_bm F.plainAttrs_str F.slot_str_join F.type_str_join mt_join md_join ae_str (aa_cons (ae_lc (own := [("_law_ages", 3)]) sc__law_tick_text.nd (ai_list (ae_ix (av 0) ae_int (by intro _ _; rfl))) rfl (fun s H C cl fp => (ag_name 3 sc__law_tick_text.nd)) (fun s H C cl fp => ats_nil) (fun s H C cl fp => (ae_bm F.plainAttrs_str F.slot_str_join F.type_str_join mt_join md_join ae_str (aa_cons (ae_lc (own := [("_law_age", 2)]) sc__law_tick_text.nd (ai_tup (av 3)) rfl (fun s H C cl fp => (ag_name 2 sc__law_tick_text.nd)) (fun s H C cl fp => ats_nil) (fun s H C cl fp => (ae_ty call_str_int cd_str Z.free_str (aa_cons (av 2) aa_nil)))) aa_nil)))) aa_nil)) ae_str))
    (ass_one (as_ret (ae_bin op_add_str od_addS (ae_if (at_val (ae_ix (av 0) ae_int (by intro _ _; rfl))) ae_str ae_str) (av 1)))))⟩
theorem ok__law_tick_text (Z : Fx P w K mg) : Ok P w K mg base 1 (He.ga K "_law_tick_text") m__law_tick_text := by
  obtain ⟨fd, F⟩ := Z.d__law_tick_text
  exact ⟨⟨fd, ["_law_tick_here"], fn_ok F sc__law_tick_text fun cdv A outer s H E cx => w__law_tick_text Z cx, F.bindsN fun _ _ _ _ _ _ us hl => match us, hl with | [_], _ => rfl⟩, F.kp⟩
theorem sc__law_plan_text : FnScope N__law_plan_text ["_law_ticks"] (defScope s__law_plan_text) := ⟨rfl, rfl, rfl, by decide +kernel, rfl, by decide +kernel, by decide +kernel⟩
theorem w__law_plan_text (Z : Fx P w K mg) {f : Addr} {cdv : Value} {A : Around} {outer : List Env} {s : Shared} {H : Hp} {E : XK} (cx : Ctx P w K mg base N__law_plan_text (defScope s__law_plan_text) 1 (cxOf (L2.CX P w) P w K mg base N__law_plan_text "_law_plan_text" (defScope s__law_plan_text) f cdv A outer s H E) E) :
    ∃ ts, ASs K (cxOf (L2.CX P w) P w K mg base N__law_plan_text "_law_plan_text" (defScope s__law_plan_text) f cdv A outer s H E) E (defBody s__law_plan_text) ts g__law_plan_text := ⟨_, (ass_one (as_ret (ae_bm F.plainAttrs_str F.slot_str_join F.type_str_join mt_join md_join ae_str (aa_cons (ae_lc (own := [("_law_tick_here", 1)]) sc__law_plan_text.nd (ai_list (av 0)) rfl (fun s H C cl fp => (ag_name 1 sc__law_plan_text.nd)) (fun s H C cl fp => ats_nil) (fun s H C cl fp => (ae_call (cal_of (ok__law_tick_text Z) Z.glo__law_tick_text) (cx.room.mono (by decide)) pass_e0 (aa_cons (av 1) aa_nil)))) aa_nil))))⟩
theorem ok__law_plan_text (Z : Fx P w K mg) : Ok P w K mg base 2 (He.ga K "_law_plan_text") m__law_plan_text := by
  obtain ⟨fd, F⟩ := Z.d__law_plan_text
  exact ⟨⟨fd, ["_law_ticks"], fn_ok F sc__law_plan_text fun cdv A outer s H E cx => w__law_plan_text Z cx, F.bindsN fun _ _ _ _ _ _ us hl => match us, hl with | [_], _ => rfl⟩, F.kp⟩
theorem sc__law_back_right : FnScope N__law_back_right ["_law_bench", "_law_past", "_law_ticks"] (defScope s__law_back_right) := ⟨rfl, rfl, rfl, by decide +kernel, rfl, by decide +kernel, by decide +kernel⟩
theorem w__law_back_right (Z : Fx P w K mg) (TB : ∀ p ∈ csK K, LamX.TabB base mg p.1 p.2) {c P0 : Addr} (ht : PySem.W.tabIn K "_law_back_right" = some (c, P0)) {f : Addr} {A : Around} {outer : List Env} {s : Shared} {H : Hp} {E : XK} (cx : Ctx P w K mg base N__law_back_right (defScope s__law_back_right) 7 (cxOf (L2.CX P w) P w K mg base N__law_back_right "_law_back_right" (defScope s__law_back_right) f (.ref c) A outer s H E) E) (gd : (cxOf (L2.CX P w) P w K mg base N__law_back_right "_law_back_right" (defScope s__law_back_right) f (.ref c) A outer s H E).A.guards = some []) :
    ∃ ts, ASs K (cxOf (L2.CX P w) P w K mg base N__law_back_right "_law_back_right" (defScope s__law_back_right) f (.ref c) A outer s H E) E (defBody s__law_back_right) ts g__law_back_right := ⟨_, (ass_cons (as_if (at_cmp (op_eqD (by exact un64 cx.room)) od_eqD (av 1) (ae_lst aa_nil) (nomark _)) (ass_one (as_ret (ae_cmp (op_eqD (by exact un64 cx.room)) od_eqD (aeh Z gd (k := 1) TB ht (cx.room.mono (by decide)) (LamX.lamS_by (sc := defScope s__law_back_right) (by decide +kernel)) (fun E => ⟨_, fun A outer s H f c2 ga hr => have cx := RL.ctx_lam (N := N__law_back_right) hr; (ae_meth0 (met_of (ok_Bench_undo Z)) (cx.room.mono (by decide)) cx.px (av 0))⟩)) (ae_tup (aa_cons ae_str aa_nil)) (nomark _)))) ass_nil)
    (ass_cons (as_asg (ae_bm0 F.plainAttrs_list F.slot_list_pop F.type_list_pop mt_pop md_pop0 (av 1)) (ag_tup (ags_cons (ag_name 3 sc__law_back_right.nd) (ags_cons (ag_name 4 sc__law_back_right.nd) ags_nil))))
    (ass_cons (as_asg (av 4) (ag_all1 (av 2)))
    (ass_one (as_ret (ae_and (ae_cmp op_eq od_eqS (ae_meth0 (met_of (ok_Bench_undo Z)) (cx.room.mono (by decide)) cx.px (av 0)) (av 3) (nomark _)) (ae_and (ae_cmp op_eq od_eqS (ae_strO (dun_of (ok_Plan___str__ Z) cx.px) (Room.in1 (Room.in1 (cx.room.mono (by decide)))) Z.free_str (aa_cons (ae_prop (prc Z.cls_Bench (ok_Bench_now Z) Z.prop_Bench_now) (cx.room.mono (by decide)) (av 0)) aa_nil)) (ae_call (cal_of (ok__law_plan_text Z) Z.glo__law_plan_text) (cx.room.mono (by decide)) cx.px (aa_cons (av 4) aa_nil)) (nomark _)) (ae_one (ae_cmp op_eq od_eqS (ae_lenO (dun_of (ok_Bench___len__ Z) cx.px) (Room.in1 (cx.room.mono (by decide))) Z.free_len (aa_cons (av 0) aa_nil)) (ae_blt call_len cd_len Z.free_len (aa_cons (av 1) aa_nil)) (nomark _))))))))))⟩
theorem ok__law_back_right (Z : Fx P w K mg) (TB : ∀ p ∈ csK K, LamX.TabB base mg p.1 p.2) : FnG P w K mg base 8 (He.ga K "_law_back_right") m__law_back_right ∧ PySem.W.keepIn K (.ref (He.ga K "_law_back_right")) = true := by
  obtain ⟨fd, F⟩ := Z.d__law_back_right
  obtain ⟨c, P0, ht, hcode⟩ := lamAt_of Z.lam__law_back_right
  obtain ⟨oc, od, dV, kV, doc, pm, an, cdv, ct, osl, e1, lk, _⟩ := id F.ex
  exact ⟨fng_ofL F sc__law_back_right (F.bindsN (ps := ["_law_bench", "_law_past", "_law_ticks"]) fun _ _ _ _ _ _ us hl => match us, hl with | [_, _, _], _ => rfl) (hcode _ _ _ _ lk) fun A outer s H E cx gd => w__law_back_right Z TB ht cx gd, F.kp⟩
theorem sc_Bench_done : FnScope N_Bench_done ["self", "word", "plan"] (defScope s_Bench_done) := ⟨rfl, rfl, rfl, by decide +kernel, rfl, by decide +kernel, by decide +kernel⟩
theorem w_Bench_done (Z : Fx P w K mg) {f : Addr} {cdv : Value} {A : Around} {outer : List Env} {s : Shared} {H : Hp} {E : XK} (cx : Ctx P w K mg base N_Bench_done (defScope s_Bench_done) 0 (cxOf (L2.CX P w) P w K mg base N_Bench_done "Bench.done" (defScope s_Bench_done) f cdv A outer s H E) E) :
    ∃ ts, ASs K (cxOf (L2.CX P w) P w K mg base N_Bench_done "Bench.done" (defScope s_Bench_done) f cdv A outer s H E) E (defBody s_Bench_done) ts g_Bench_done := ⟨_, (ass_cons (as_expr (ae_bm F.plainAttrs_list F.slot_list_append F.type_list_append mt_append md_append (ae_fld (i := 1) (av 0) Z.cls_Bench Z.noat_Bench_past) (aa_cons (ae_tup (aa_cons (av 1) (aa_cons (ae_fld (i := 0) (av 0) Z.cls_Bench Z.noat_Bench_own_now) aa_nil))) aa_nil)))
    (ass_one (as_setF 0 (av 0) (av 2) Z.cls_Bench Z.noat_Bench_own_now)))⟩
theorem ok_Bench_done (Z : Fx P w K mg) : Mt P w K mg base 1 "Bench" "done" m_Bench_done := by
  obtain ⟨fd, F⟩ := Z.d_Bench_done
  exact ⟨⟨⟨fd, ["self", "word", "plan"], fn_ok F sc_Bench_done fun cdv A outer s H E cx => w_Bench_done Z cx, F.bindsN fun _ _ _ _ _ _ us hl => match us, hl with | [_, _, _], _ => rfl⟩, F.kp⟩, Z.cls_Bench, Z.me_Bench_done, Z.fi_Bench_done⟩
theorem sc_Plan___len__ : FnScope N_Plan___len__ ["self"] (defScope s_Plan___len__) := ⟨rfl, rfl, rfl, by decide +kernel, rfl, by decide +kernel, by decide +kernel⟩
theorem w_Plan___len__ (Z : Fx P w K mg) {f : Addr} {cdv : Value} {A : Around} {outer : List Env} {s : Shared} {H : Hp} {E : XK} (cx : Ctx P w K mg base N_Plan___len__ (defScope s_Plan___len__) 0 (cxOf (L2.CX P w) P w K mg base N_Plan___len__ "Plan.__len__" (defScope s_Plan___len__) f cdv A outer s H E) E) :
    ∃ ts, ASs K (cxOf (L2.CX P w) P w K mg base N_Plan___len__ "Plan.__len__" (defScope s_Plan___len__) f cdv A outer s H E) E (defBody s_Plan___len__) ts g_Plan___len__ := ⟨_, (ass_one (as_ret (ae_blt call_len cd_len Z.free_len (aa_cons (ae_fld (i := 0) (av 0) Z.cls_Plan Z.noat_Plan_own_ticks) aa_nil))))⟩
theorem ok_Plan___len__ (Z : Fx P w K mg) : Mt P w K mg base 1 "Plan" "__len__" m_Plan___len__ := by
  obtain ⟨fd, F⟩ := Z.d_Plan___len__
  exact ⟨⟨⟨fd, ["self"], fn_ok F sc_Plan___len__ fun cdv A outer s H E cx => w_Plan___len__ Z cx, F.bindsN fun _ _ _ _ _ _ us hl => match us, hl with | [_], _ => rfl⟩, F.kp⟩, Z.cls_Plan, Z.me_Plan___len__, Z.fi_Plan___len__⟩
theorem sc_Plan___iter__ : FnScope ["self"] ["self"] (defScope s_Plan___iter__) := ⟨rfl, rfl, rfl, by decide +kernel, rfl, by decide +kernel, by decide +kernel⟩
theorem it_Plan (Z : Fx P w K mg) : ∃ fd ps, FnOk P w K mg base (L2.CX P w) 1 (He.ma K (He.ga K "Plan") "__iter__") fd ps (spIt K (He.ga K "Plan") "own_ticks") ∧ Binds K fd ps [] := by
  obtain ⟨fd, F⟩ := Z.d_Plan___iter__
  refine ⟨fd, ["self"], F.ok sc_Plan___iter__ (fun vs H Q E h => ?_) (fun cdv A outer s H vs Q E hr h => ⟨_, pss_one (ps_ret (pe_callB call_iterT rfl Z.free_iter rfl (pa_cons (pe_fld (pv 0) rfl) pa_nil))), ?_⟩), F.bindsN fun _ _ _ _ _ _ us hl => match us, hl with | [_], _ => rfl⟩
  · obtain ⟨a, dx, fs, t, xs, e, _⟩ := h
    rw [e]
    rfl
  · obtain ⟨a, dx, fs, t, xs, e, e1, e2, e3, q⟩ := h
    subst e
    exact ⟨.ref a, rfl, a, _, dx, fs, .ref t, rfl, e1, Z.cls_Plan, Z.noat_Plan_own_ticks, e2, t, xs, rfl, e3, q⟩
theorem itr_Plan {X : Cx} {E : XK} (Z : Fx X.prog X.w X.K X.mg) (px : Passes (L2.CX X.prog X.w) X E) : Itr1 X 1 E "Plan" "own_ticks" m_Plan___len__ := itr_of (it_Plan Z) Z.me_Plan___iter__ (ok_Plan___len__ Z) px
theorem sc_need_tick : FnScope N_need_tick ["value"] (defScope s_need_tick) := ⟨rfl, rfl, rfl, by decide +kernel, rfl, by decide +kernel, by decide +kernel⟩
theorem w_need_tick (Z : Fx P w K mg) {f : Addr} {cdv : Value} {A : Around} {outer : List Env} {s : Shared} {H : Hp} {E : XK} (cx : Ctx P w K mg base N_need_tick (defScope s_need_tick) 3 (cxOf (L2.CX P w) P w K mg base N_need_tick "need_tick" (defScope s_need_tick) f cdv A outer s H E) E) :
    ∃ ts, ASs K (cxOf (L2.CX P w) P w K mg base N_need_tick "need_tick" (defScope s_need_tick) f cdv A outer s H E) E (defBody s_need_tick) ts g_need_tick := ⟨_, (ass_one (as_if (at_not (at_val (ae_isi Z.isf (tab_ok_Tick Z) (.own _) Z.free_isinstance (av 0) (pe_glob rfl Z.glo_Tick rfl)))) (ass_one (as_raise (xmk_BadBench Z) (cx.room.mono (by decide)) cx.tk (aa_cons ae_str aa_nil))) ass_nil))⟩
theorem ok_need_tick (Z : Fx P w K mg) : Ok P w K mg base 4 (He.ga K "need_tick") m_need_tick := by
  obtain ⟨fd, F⟩ := Z.d_need_tick
  exact ⟨⟨fd, ["value"], fn_ok F sc_need_tick fun cdv A outer s H E cx => w_need_tick Z cx, F.bindsN fun _ _ _ _ _ _ us hl => match us, hl with | [_], _ => rfl⟩, F.kp⟩
theorem sc_plan_of : FnScope N_plan_of ["ticks"] (defScope s_plan_of) := ⟨rfl, rfl, rfl, by decide +kernel, rfl, by decide +kernel, by decide +kernel⟩
theorem w_plan_of (Z : Fx P w K mg) {f : Addr} {cdv : Value} {A : Around} {outer : List Env} {s : Shared} {H : Hp} {E : XK} (cx : Ctx P w K mg base N_plan_of (defScope s_plan_of) 5 (cxOf (L2.CX P w) P w K mg base N_plan_of "plan_of" (defScope s_plan_of) f cdv A outer s H E) E) :
    ∃ ts, ASs K (cxOf (L2.CX P w) P w K mg base N_plan_of "plan_of" (defScope s_plan_of) f cdv A outer s H E) E (defBody s_plan_of) ts g_plan_of := ⟨_, (ass_one (as_ret (ae_mkS (kp := false) (mkc_Plan Z cx.px) (cx.room.mono (by decide)) (av 0) ak_nil (fun _ _ _ _ h => by cases h; rfl))))⟩
theorem ok_plan_of (Z : Fx P w K mg) : Ok P w K mg base 6 (He.ga K "plan_of") m_plan_of := by
  obtain ⟨fd, F⟩ := Z.d_plan_of
  exact ⟨⟨fd, ["ticks"], fn_ok F sc_plan_of fun cdv A outer s H E cx => w_plan_of Z cx, F.bindsN fun _ _ _ _ _ _ us hl => match us, hl with | [_], _ => rfl⟩, F.kp⟩
theorem sc_Bench_add : FnScope N_Bench_add ["self", "tick"] (defScope s_Bench_add) := ⟨rfl, rfl, rfl, by decide +kernel, rfl, by decide +kernel, by decide +kernel⟩
theorem w_Bench_add (Z : Fx P w K mg) {f : Addr} {cdv : Value} {A : Around} {outer : List Env} {s : Shared} {H : Hp} {E : XK} (cx : Ctx P w K mg base N_Bench_add (defScope s_Bench_add) 6 (cxOf (L2.CX P w) P w K mg base N_Bench_add "Bench.add" (defScope s_Bench_add) f cdv A outer s H E) E) :
    ∃ ts, ASs K (cxOf (L2.CX P w) P w K mg base N_Bench_add "Bench.add" (defScope s_Bench_add) f cdv A outer s H E) E (defBody s_Bench_add) ts g_Bench_add := ⟨_, (ass_cons (as_expr (ae_call (cal_of (ok_need_tick Z) Z.glo_need_tick) (cx.room.mono (by decide)) cx.px (aa_cons (av 1) aa_nil)))
    (ass_cons (as_set 2 sc_Bench_add.nd (ae_lenO (dun_of (ok_Plan___len__ Z) cx.px) (Room.in1 (cx.room.mono (by decide))) Z.free_len (aa_cons (ae_fld (i := 0) (av 0) Z.cls_Bench Z.noat_Bench_own_now) aa_nil)))
    (ass_cons (as_expr (ae_meth (met_of (ok_Bench_done Z)) (cx.room.mono (by decide)) cx.px (av 0) (aa_cons ae_str (aa_cons (ae_call (cal_of (ok_plan_of Z) Z.glo_plan_of) (cx.room.mono (by decide)) cx.px (aa_cons (ae_lst (aa_starI 0 (itr_Plan Z cx.px) (Room.in1 (cx.room.mono (by decide))) (ae_fld (i := 0) (av 0) Z.cls_Bench Z.noat_Bench_own_now) (aa_cons (av 1) aa_nil))) aa_nil)) aa_nil))))
    (ass_one (as_ret (av 2))))))⟩
theorem ok_Bench_add (Z : Fx P w K mg) : Mt P w K mg base 7 "Bench" "add" m_Bench_add := by
  obtain ⟨fd, F⟩ := Z.d_Bench_add
  exact ⟨⟨⟨fd, ["self", "tick"], fn_ok F sc_Bench_add fun cdv A outer s H E cx => w_Bench_add Z cx, F.bindsN fun _ _ _ _ _ _ us hl => match us, hl with | [_, _], _ => rfl⟩, F.kp⟩, Z.cls_Bench, Z.me_Bench_add, Z.fi_Bench_add⟩
theorem sc_Bench_need_phase : FnScope N_Bench_need_phase ["self", "phase"] (defScope s_Bench_need_phase) := ⟨rfl, rfl, rfl, by decide +kernel, rfl, by decide +kernel, by decide +kernel⟩
theorem w_Bench_need_phase (Z : Fx P w K mg) {f : Addr} {cdv : Value} {A : Around} {outer : List Env} {s : Shared} {H : Hp} {E : XK} (cx : Ctx P w K mg base N_Bench_need_phase (defScope s_Bench_need_phase) 3 (cxOf (L2.CX P w) P w K mg base N_Bench_need_phase "Bench.need_phase" (defScope s_Bench_need_phase) f cdv A outer s H E) E) :
    ∃ ts, ASs K (cxOf (L2.CX P w) P w K mg base N_Bench_need_phase "Bench.need_phase" (defScope s_Bench_need_phase) f cdv A outer s H E) E (defBody s_Bench_need_phase) ts g_Bench_need_phase := ⟨_, (ass_one (as_if (at_not (at_val (ae_call (cal_of (ok_is_within Z) Z.glo_is_within) (cx.room.mono (by decide)) cx.px (aa_cons (av 1) (aa_cons ae_int (aa_cons (ae_bin op_sub od_sub (ae_lenO (dun_of (ok_Plan___len__ Z) cx.px) (Room.in1 (cx.room.mono (by decide))) Z.free_len (aa_cons (ae_fld (i := 0) (av 0) Z.cls_Bench Z.noat_Bench_own_now) aa_nil)) ae_int) aa_nil)))))) (ass_one (as_raise (xmk_NoPhase Z) (cx.room.mono (by decide)) cx.tk (aa_cons (av 1) aa_nil))) ass_nil))⟩
theorem ok_Bench_need_phase (Z : Fx P w K mg) : Mt P w K mg base 4 "Bench" "need_phase" m_Bench_need_phase := by
  obtain ⟨fd, F⟩ := Z.d_Bench_need_phase
  exact ⟨⟨⟨fd, ["self", "phase"], fn_ok F sc_Bench_need_phase fun cdv A outer s H E cx => w_Bench_need_phase Z cx, F.bindsN fun _ _ _ _ _ _ us hl => match us, hl with | [_, _], _ => rfl⟩, F.kp⟩, Z.cls_Bench, Z.me_Bench_need_phase, Z.fi_Bench_need_phase⟩
theorem sc_Bench_drop : FnScope N_Bench_drop ["self", "phase"] (defScope s_Bench_drop) := ⟨rfl, rfl, rfl, by decide +kernel, rfl, by decide +kernel, by decide +kernel⟩
theorem w_Bench_drop (Z : Fx P w K mg) {f : Addr} {cdv : Value} {A : Around} {outer : List Env} {s : Shared} {H : Hp} {E : XK} (cx : Ctx P w K mg base N_Bench_drop (defScope s_Bench_drop) 6 (cxOf (L2.CX P w) P w K mg base N_Bench_drop "Bench.drop" (defScope s_Bench_drop) f cdv A outer s H E) E) :
    ∃ ts, ASs K (cxOf (L2.CX P w) P w K mg base N_Bench_drop "Bench.drop" (defScope s_Bench_drop) f cdv A outer s H E) E (defBody s_Bench_drop) ts g_Bench_drop := ⟨_, (ass_cons (as_expr (ae_meth (met_of (ok_Bench_need_phase Z)) (cx.room.mono (by decide)) cx.px (av 0) (aa_cons (av 1) aa_nil)))
    (ass_cons (as_set 2 sc_Bench_drop.nd (ae_listI 0 (itr_Plan Z cx.px) (Room.in1 (Room.in1 (cx.room.mono (by decide)))) Z.free_list (aa_cons (ae_fld (i := 0) (av 0) Z.cls_Bench Z.noat_Bench_own_now) aa_nil)))
    (ass_cons (as_set 3 sc_Bench_drop.nd (ae_bm F.plainAttrs_list F.slot_list_pop F.type_list_pop mt_popAt md_pop (av 2) (aa_cons (av 1) aa_nil)))
    (ass_cons (as_expr (ae_meth (met_of (ok_Bench_done Z)) (cx.room.mono (by decide)) cx.px (av 0) (aa_cons ae_str (aa_cons (ae_call (cal_of (ok_plan_of Z) Z.glo_plan_of) (cx.room.mono (by decide)) cx.px (aa_cons (av 2) aa_nil)) aa_nil))))
    (ass_one (as_ret (av 3)))))))⟩
theorem ok_Bench_drop (Z : Fx P w K mg) : Mt P w K mg base 7 "Bench" "drop" m_Bench_drop := by
  obtain ⟨fd, F⟩ := Z.d_Bench_drop
  exact ⟨⟨⟨fd, ["self", "phase"], fn_ok F sc_Bench_drop fun cdv A outer s H E cx => w_Bench_drop Z cx, F.bindsN fun _ _ _ _ _ _ us hl => match us, hl with | [_, _], _ => rfl⟩, F.kp⟩, Z.cls_Bench, Z.me_Bench_drop, Z.fi_Bench_drop⟩
theorem sc_Tick_read : FnScope N_Tick_read ["cls", "text"] (defScope s_Tick_read) := ⟨rfl, rfl, rfl, by decide +kernel, rfl, by decide +kernel, by decide +kernel⟩
theorem w_Tick_read (Z : Fx P w K mg) {f : Addr} {cdv : Value} {A : Around} {outer : List Env} {s : Shared} {H : Hp} {E : XK} (cx : Ctx P w K mg base N_Tick_read (defScope s_Tick_read) 7 (cxOf (L2.CX P w) P w K mg base N_Tick_read "Tick.read" (defScope s_Tick_read) f cdv A outer s H E) E) :
    ∃ ts, ASs K (cxOf (L2.CX P w) P w K mg base N_Tick_read "Tick.read" (defScope s_Tick_read) f cdv A outer s H E) E (defBody s_Tick_read) ts g_Tick_read := ⟨_, (ass_cons (as_set 2 sc_Tick_read.nd (ae_if (at_val (ae_isi Z.isf (tab_ok_str Z) (.ty _) Z.free_isinstance (av 1) (pe_bltn (v := .ty "str") (u := .type "str") rfl Z.free_str rfl rfl))) (ae_bm F.plainAttrs_str F.slot_str_split F.type_str_split mt_split md_split (av 1) (aa_cons ae_str aa_nil)) (ae_lst (aa_cons ae_str aa_nil))))
    (ass_cons (as_set 3 sc_Tick_read.nd (ae_call (cal_of (ok_read_tick Z) Z.glo_read_tick) (cx.room.mono (by decide)) cx.px (aa_cons (av 2) (aa_cons ae_int aa_nil))))
    (ass_cons (as_if (at_cmp op_lt od_lt (ae_ix (av 3) ae_int (by intro _ _; rfl)) (ae_blt call_len cd_len Z.free_len (aa_cons (av 2) aa_nil)) (nomark _)) (ass_one (as_raise (xmk_BadText Z) (cx.room.mono (by decide)) cx.tk (aa_cons ae_int (aa_cons (ae_ix (av 3) ae_int (by intro _ _; rfl)) aa_nil)))) ass_nil)
    (ass_one (as_ret (ae_ix (av 3) ae_int (by intro _ _; rfl)))))))⟩
theorem ok_Tick_read (Z : Fx P w K mg) : Ok P w K mg base 8 (cmA K "Tick" "read") m_Tick_read := by
  obtain ⟨fd, F⟩ := Z.d_Tick_read
  exact ⟨⟨fd, ["cls", "text"], fn_ok F sc_Tick_read fun cdv A outer s H E cx => w_Tick_read Z cx, F.bindsN fun _ _ _ _ _ _ us hl => match us, hl with | [_, _], _ => rfl⟩, F.kp⟩
theorem sc__law_draw : FnScope N__law_draw ["_law_pen_here", "_law_many"] (defScope s__law_draw) := ⟨rfl, rfl, rfl, by decide +kernel, rfl, by decide +kernel, by decide +kernel⟩
theorem w__law_draw (Z : Fx P w K mg) {f : Addr} {cdv : Value} {A : Around} {outer : List Env} {s : Shared} {H : Hp} {E : XK} (cx : Ctx P w K mg base N__law_draw (defScope s__law_draw) 0 (cxOf (L2.CX P w) P w K mg base N__law_draw "_law_draw" (defScope s__law_draw) f cdv A outer s H E) E) :
    ∃ ts, ASs K (cxOf (L2.CX P w) P w K mg base N__law_draw "_law_draw" (defScope s__law_draw) f cdv A outer s H E) E (defBody s__law_draw) ts g__law_draw := ⟨_, (ass_cons (as_if (at_cmp op_gt od_gt (ae_ix (av 0) ae_int (by intro _ _; rfl)) ae_int (nomark _)) (ass_cons (as_set 2 sc__law_draw.nd (ae_bin op_mod od_mod (ae_ty call_int1 cd_int Z.free_int (aa_cons (ae_ix (av 0) ae_int (by intro _ _; rfl)) aa_nil)) (av 1)))
    (ass_cons (as_asg (ae_bin op_fdiv od_fdiv (ae_ty call_int1 cd_int Z.free_int (aa_cons (ae_ix (av 0) ae_int (by intro _ _; rfl)) aa_nil)) (av 1)) (ag_item (av 0) ae_int))
    (ass_one (as_ret (av 2))))) ass_nil)
    (ass_cons (as_set 3 sc__law_draw.nd (ae_ix (av 0) ae_int (by intro _ _; rfl)))
    (ass_cons (as_asg (ae_bin op_add od_add (av 3) ae_int) (ag_item (av 0) ae_int))
    (ass_cons (as_set 4 sc__law_draw.nd (ae_bin op_add od_add (ae_bin op_mul od_mul ae_int (av 3)) ae_int))
    (ass_cons (as_if (at_cmp (op_neD (by exact un64 cx.room)) od_neD (ae_ix (av 0) ae_int (by intro _ _; rfl)) (ae_lst aa_nil) (nomark _)) (ass_one (as_set 4 sc__law_draw.nd (ae_ix (ae_ix (av 0) ae_int (by intro _ _; rfl)) (ae_bin op_mod od_mod (ae_ty call_int1 cd_int Z.free_int (aa_cons (av 3) aa_nil)) (ae_blt call_len cd_len Z.free_len (aa_cons (ae_ix (av 0) ae_int (by intro _ _; rfl)) aa_nil))) (by intro _ _; rfl)))) ass_nil)
    (ass_cons (as_if (AW.at (aw_and (at_cmp op_lt od_lt (av 3) (ae_blt call_len cd_len Z.free_len (aa_cons (ae_ix (av 0) ae_int (by intro _ _; rfl)) aa_nil)) (nomark _)) (aw_and1 (at_cmp op_ge od_ge (ae_blt call_abs cd_abs Z.free_abs (aa_cons (av 4) aa_nil)) (ae_bin op_pow od_pow ae_int ae_int) (nomark _))))) (ass_cons (as_set 5 sc__law_draw.nd (ae_bin op_add od_add (ae_bin op_mul od_mul ae_int (ae_bin op_sub od_sub (ae_blt call_abs cd_abs Z.free_abs (aa_cons (av 4) aa_nil)) (ae_bin op_pow od_pow ae_int ae_int))) (ae_ty call_int1 cd_int Z.free_int (aa_cons (ae_cmp op_lt od_lt (av 4) ae_int (nomark _)) aa_nil))))
    (ass_cons (as_asg (ae_bin op_fdiv od_fdiv (ae_ty call_int1 cd_int Z.free_int (aa_cons (av 5) aa_nil)) (av 1)) (ag_item (av 0) ae_int))
    (ass_one (as_ret (ae_bin op_mod od_mod (ae_ty call_int1 cd_int Z.free_int (aa_cons (av 5) aa_nil)) (av 1)))))) ass_nil)
    (ass_cons (as_set 6 sc__law_draw.nd (ae_bin op_mod od_mod (ae_ty call_int1 cd_int Z.free_int (aa_cons (ae_bin op_pow od_pow (ae_bin op_add od_add (ae_bin op_add od_add (ae_bin op_mod od_mod (ae_ty call_int1 cd_int Z.free_int (aa_cons (av 4) aa_nil)) ae_int) (ae_bin op_mul od_mul ae_int (av 3))) ae_int) ae_int) aa_nil)) ae_int))
    (ass_cons (as_set 6 sc__law_draw.nd (ae_bin op_mod od_mod (ae_ty call_int1 cd_int Z.free_int (aa_cons (ae_bin op_pow od_pow (ae_bin op_add od_add (ae_bin op_add od_add (ae_bin op_mul od_mul (av 6) (ae_bin op_add od_add (ae_bin op_mul od_mul ae_int (av 3)) ae_int)) (ae_bin op_mul od_mul (ae_bin op_mul od_mul ae_int (av 3)) (av 3))) ae_int) ae_int) aa_nil)) ae_int))
    (ass_one (as_ret (ae_bin op_mod od_mod (ae_ty call_int1 cd_int Z.free_int (aa_cons (ae_bin op_fdiv od_fdiv (av 6) ae_int) aa_nil)) (av 1))))))))))))⟩
theorem ok__law_draw (Z : Fx P w K mg) : Ok P w K mg base 1 (He.ga K "_law_draw") m__law_draw := by
  obtain ⟨fd, F⟩ := Z.d__law_draw
  exact ⟨⟨fd, ["_law_pen_here", "_law_many"], fn_ok F sc__law_draw fun cdv A outer s H E cx => w__law_draw Z cx, F.bindsN fun _ _ _ _ _ _ us hl => match us, hl with | [_, _], _ => rfl⟩, F.kp⟩
theorem sc_Plan___getitem__ : FnScope N_Plan___getitem__ ["self", "phase"] (defScope s_Plan___getitem__) := ⟨rfl, rfl, rfl, by decide +kernel, rfl, by decide +kernel, by decide +kernel⟩
theorem w_Plan___getitem__ (Z : Fx P w K mg) {f : Addr} {cdv : Value} {A : Around} {outer : List Env} {s : Shared} {H : Hp} {E : XK} (cx : Ctx P w K mg base N_Plan___getitem__ (defScope s_Plan___getitem__) 3 (cxOf (L2.CX P w) P w K mg base N_Plan___getitem__ "Plan.__getitem__" (defScope s_Plan___getitem__) f cdv A outer s H E) E) :
    ∃ ts, ASs K (cxOf (L2.CX P w) P w K mg base N_Plan___getitem__ "Plan.__getitem__" (defScope s_Plan___getitem__) f cdv A outer s H E) E (defBody s_Plan___getitem__) ts g_Plan___getitem__ := ⟨_, (ass_cons (as_if (at_not (at_val (ae_call (cal_of (ok_is_within Z) Z.glo_is_within) (cx.room.mono (by decide)) cx.px (aa_cons (av 1) (aa_cons ae_int (aa_cons (ae_bin op_sub od_sub (ae_blt call_len cd_len Z.free_len (aa_cons (ae_fld (i := 0) (av 0) Z.cls_Plan Z.noat_Plan_own_ticks) aa_nil)) ae_int) aa_nil)))))) (ass_one (as_raise (xmk_NoPhase Z) (cx.room.mono (by decide)) cx.tk (aa_cons (av 1) aa_nil))) ass_nil)
    (ass_one (as_ret (ae_ix (ae_fld (i := 0) (av 0) Z.cls_Plan Z.noat_Plan_own_ticks) (av 1) (by intro _ _; rfl)))))⟩
theorem ok_Plan___getitem__ (Z : Fx P w K mg) : Mt P w K mg base 4 "Plan" "__getitem__" m_Plan___getitem__ := by
  obtain ⟨fd, F⟩ := Z.d_Plan___getitem__
  exact ⟨⟨⟨fd, ["self", "phase"], fn_ok F sc_Plan___getitem__ fun cdv A outer s H E cx => w_Plan___getitem__ Z cx, F.bindsN fun _ _ _ _ _ _ us hl => match us, hl with | [_, _], _ => rfl⟩, F.kp⟩, Z.cls_Plan, Z.me_Plan___getitem__, Z.fi_Plan___getitem__⟩
theorem sc_Plan_with_phase : FnScope N_Plan_with_phase ["self", "phase", "tick"] (defScope s_Plan_with_phase) := ⟨rfl, rfl, rfl, by decide +kernel, rfl, by decide +kernel, by decide +kernel⟩
theorem w_Plan_with_phase (Z : Fx P w K mg) {f : Addr} {cdv : Value} {A : Around} {outer : List Env} {s : Shared} {H : Hp} {E : XK} (cx : Ctx P w K mg base N_Plan_with_phase (defScope s_Plan_with_phase) 5 (cxOf (L2.CX P w) P w K mg base N_Plan_with_phase "Plan.with_phase" (defScope s_Plan_with_phase) f cdv A outer s H E) E) :
    ∃ ts, ASs K (cxOf (L2.CX P w) P w K mg base N_Plan_with_phase "Plan.with_phase" (defScope s_Plan_with_phase) f cdv A outer s H E) E (defBody s_Plan_with_phase) ts g_Plan_with_phase := ⟨_, (ass_cons (as_if (at_not (at_val (ae_call (cal_of (ok_is_within Z) Z.glo_is_within) (cx.room.mono (by decide)) cx.px (aa_cons (av 1) (aa_cons ae_int (aa_cons (ae_bin op_sub od_sub (ae_blt call_len cd_len Z.free_len (aa_cons (ae_fld (i := 0) (av 0) Z.cls_Plan Z.noat_Plan_own_ticks) aa_nil)) ae_int) aa_nil)))))) (ass_one (as_raise (xmk_NoPhase Z) (cx.room.mono (by decide)) cx.tk (aa_cons (av 1) aa_nil))) ass_nil)
    (ass_cons (as_if (at_not (at_val (ae_isi Z.isf (tab_ok_Tick Z) (.own _) Z.free_isinstance (av 2) (pe_glob rfl Z.glo_Tick rfl)))) (ass_one (as_raise (xmk_BadPlan Z) (cx.room.mono (by decide)) cx.tk (aa_cons ae_str aa_nil))) ass_nil)
    (ass_cons (as_setLc 3 (own := [("at", 4), ("own", 5)]) sc_Plan_with_phase.nd (ai_enumT rfl Z.free_enumerate (aa_cons (ae_fld (i := 0) (av 0) Z.cls_Plan Z.noat_Plan_own_ticks) aa_nil)) rfl (fun s H C cl fp => (ag_tup (ags_cons (ag_name 4 sc_Plan_with_phase.nd) (ags_cons (ag_name 5 sc_Plan_with_phase.nd) ags_nil)))) (fun s H C cl fp => ats_nil) (fun s H C cl fp => (ae_if (at_cmp op_eq od_eqS (av 4) (av 1) (nomark _)) (av 2) (av 5))) rfl)
    (ass_one (as_ret (ae_mkS (kp := false) (mkc_Plan Z cx.px) (cx.room.mono (by decide)) (av 3) ak_nil (fun _ _ _ _ h => by cases h; rfl)))))))⟩
theorem ok_Plan_with_phase (Z : Fx P w K mg) : Mt P w K mg base 6 "Plan" "with_phase" m_Plan_with_phase := by
  obtain ⟨fd, F⟩ := Z.d_Plan_with_phase
  exact ⟨⟨⟨fd, ["self", "phase", "tick"], fn_ok F sc_Plan_with_phase fun cdv A outer s H E cx => w_Plan_with_phase Z cx, F.bindsN fun _ _ _ _ _ _ us hl => match us, hl with | [_, _, _], _ => rfl⟩, F.kp⟩, Z.cls_Plan, Z.me_Plan_with_phase, Z.fi_Plan_with_phase⟩
theorem sc_Tick___add__ : FnScope N_Tick___add__ ["self", "ages"] (defScope s_Tick___add__) := ⟨rfl, rfl, rfl, by decide +kernel, rfl, by decide +kernel, by decide +kernel⟩
theorem w_Tick___add__ (Z : Fx P w K mg) {f : Addr} {cdv : Value} {A : Around} {outer : List Env} {s : Shared} {H : Hp} {E : XK} (cx : Ctx P w K mg base N_Tick___add__ (defScope s_Tick___add__) 6 (cxOf (L2.CX P w) P w K mg base N_Tick___add__ "Tick.__add__" (defScope s_Tick___add__) f cdv A outer s H E) E) :
    ∃ ts, ASs K (cxOf (L2.CX P w) P w K mg base N_Tick___add__ "Tick.__add__" (defScope s_Tick___add__) f cdv A outer s H E) E (defBody s_Tick___add__) ts g_Tick___add__ := ⟨_, (ass_cons (as_set 2 sc_Tick___add__.nd (ae_lst (aa_star (ae_fld (i := 0) (av 0) Z.cls_Tick Z.noat_Tick_sums) (aa_cons (av 1) aa_nil))))
    (ass_one (as_ret (ae_mkS (kp := false) (mkc_Tick_mute Z cx.px) (cx.room.mono (by decide)) (av 2) (ak_cons (ae_fld (i := 1) (av 0) Z.cls_Tick Z.noat_Tick_mute) ak_nil) len_one))))⟩
theorem ok_Tick___add__ (Z : Fx P w K mg) : Mt P w K mg base 7 "Tick" (PySem.dunder (Operator.Add).info.2) m_Tick___add__ := by
  obtain ⟨fd, F⟩ := Z.d_Tick___add__
  exact ⟨⟨⟨fd, ["self", "ages"], fn_ok F sc_Tick___add__ fun cdv A outer s H E cx => w_Tick___add__ Z cx, F.bindsN fun _ _ _ _ _ _ us hl => match us, hl with | [_, _], _ => rfl⟩, F.kp⟩, Z.cls_Tick, Z.me_Tick___add__, Z.fi_Tick___add__⟩
theorem sc_Bench_put : FnScope N_Bench_put ["self", "phase", "ages"] (defScope s_Bench_put) := ⟨rfl, rfl, rfl, by decide +kernel, rfl, by decide +kernel, by decide +kernel⟩
theorem w_Bench_put (Z : Fx P w K mg) {f : Addr} {cdv : Value} {A : Around} {outer : List Env} {s : Shared} {H : Hp} {E : XK} (cx : Ctx P w K mg base N_Bench_put (defScope s_Bench_put) 7 (cxOf (L2.CX P w) P w K mg base N_Bench_put "Bench.put" (defScope s_Bench_put) f cdv A outer s H E) E) :
    ∃ ts, ASs K (cxOf (L2.CX P w) P w K mg base N_Bench_put "Bench.put" (defScope s_Bench_put) f cdv A outer s H E) E (defBody s_Bench_put) ts g_Bench_put := ⟨_, (ass_cons (as_expr (ae_meth (met_of (ok_Bench_need_phase Z)) (cx.room.mono (by decide)) cx.px (av 0) (aa_cons (av 1) aa_nil)))
    (ass_one (as_expr (ae_meth (met_of (ok_Bench_done Z)) (cx.room.mono (by decide)) cx.px (av 0) (aa_cons ae_str (aa_cons (ae_meth (met_of (ok_Plan_with_phase Z)) (cx.room.mono (by decide)) cx.px (ae_fld (i := 0) (av 0) Z.cls_Bench Z.noat_Bench_own_now) (aa_cons (av 1) (aa_cons (ae_binO (dun_of (ok_Tick___add__ Z) cx.px) (cx.room.mono (by decide)) (ae_ixO (dun_of (ok_Plan___getitem__ Z) cx.px) (Room.in1 (cx.room.mono (by decide))) (ae_fld (i := 0) (av 0) Z.cls_Bench Z.noat_Bench_own_now) (av 1)) (av 2) Z.bin_Tick_Add.1 Z.bin_Tick_Add.2.1 (.inl rfl) Z.bin_Tick_Add.2.2.1 Z.bin_Tick_Add.2.2.2.1 Z.bin_Tick_Add.2.2.2.2) aa_nil))) aa_nil))))))⟩
theorem ok_Bench_put (Z : Fx P w K mg) : Mt P w K mg base 8 "Bench" "put" m_Bench_put := by
  obtain ⟨fd, F⟩ := Z.d_Bench_put
  exact ⟨⟨⟨fd, ["self", "phase", "ages"], fn_ok F sc_Bench_put fun cdv A outer s H E cx => w_Bench_put Z cx, F.bindsN fun _ _ _ _ _ _ us hl => match us, hl with | [_, _, _], _ => rfl⟩, F.kp⟩, Z.cls_Bench, Z.me_Bench_put, Z.fi_Bench_put⟩
theorem sc_Bench_replace : FnScope N_Bench_replace ["self", "plan"] (defScope s_Bench_replace) := ⟨rfl, rfl, rfl, by decide +kernel, rfl, by decide +kernel, by decide +kernel⟩
theorem w_Bench_replace (Z : Fx P w K mg) {f : Addr} {cdv : Value} {A : Around} {outer : List Env} {s : Shared} {H : Hp} {E : XK} (cx : Ctx P w K mg base N_Bench_replace (defScope s_Bench_replace) 4 (cxOf (L2.CX P w) P w K mg base N_Bench_replace "Bench.replace" (defScope s_Bench_replace) f cdv A outer s H E) E) :
    ∃ ts, ASs K (cxOf (L2.CX P w) P w K mg base N_Bench_replace "Bench.replace" (defScope s_Bench_replace) f cdv A outer s H E) E (defBody s_Bench_replace) ts g_Bench_replace := ⟨_, (ass_cons (as_expr (ae_call (cal_of (ok_need_plan Z) Z.glo_need_plan_bench) (cx.room.mono (by decide)) cx.px (aa_cons (av 1) aa_nil)))
    (ass_one (as_expr (ae_meth (met_of (ok_Bench_done Z)) (cx.room.mono (by decide)) cx.px (av 0) (aa_cons ae_str (aa_cons (av 1) aa_nil))))))⟩
theorem ok_Bench_replace (Z : Fx P w K mg) : Mt P w K mg base 5 "Bench" "replace" m_Bench_replace := by
  obtain ⟨fd, F⟩ := Z.d_Bench_replace
  exact ⟨⟨⟨fd, ["self", "plan"], fn_ok F sc_Bench_replace fun cdv A outer s H E cx => w_Bench_replace Z cx, F.bindsN fun _ _ _ _ _ _ us hl => match us, hl with | [_, _], _ => rfl⟩, F.kp⟩, Z.cls_Bench, Z.me_Bench_replace, Z.fi_Bench_replace⟩
theorem sc_Tick___contains__ : FnScope N_Tick___contains__ ["self", "ages"] (defScope s_Tick___contains__) := ⟨rfl, rfl, rfl, by decide +kernel, rfl, by decide +kernel, by decide +kernel⟩
theorem w_Tick___contains__ (Z : Fx P w K mg) {f : Addr} {cdv : Value} {A : Around} {outer : List Env} {s : Shared} {H : Hp} {E : XK} (cx : Ctx P w K mg base N_Tick___contains__ (defScope s_Tick___contains__) 4 (cxOf (L2.CX P w) P w K mg base N_Tick___contains__ "Tick.__contains__" (defScope s_Tick___contains__) f cdv A outer s H E) E) :
    ∃ ts, ASs K (cxOf (L2.CX P w) P w K mg base N_Tick___contains__ "Tick.__contains__" (defScope s_Tick___contains__) f cdv A outer s H E) E (defBody s_Tick___contains__) ts g_Tick___contains__ := ⟨_, (ass_one (as_ret (ae_and (ae_call (cal_of (ok_is_sum Z) Z.glo_is_sum) (cx.room.mono (by decide)) cx.px (aa_cons (av 1) aa_nil)) (ae_one (ae_cmp (op_inT (neg := false) (by exact un65 cx.room)) od_inT (av 1) (ae_fld (i := 0) (av 0) Z.cls_Tick Z.noat_Tick_sums) rfl)))))⟩
theorem ok_Tick___contains__ (Z : Fx P w K mg) : Mt P w K mg base 5 "Tick" "__contains__" m_Tick___contains__ := by
  obtain ⟨fd, F⟩ := Z.d_Tick___contains__
  exact ⟨⟨⟨fd, ["self", "ages"], fn_ok F sc_Tick___contains__ fun cdv A outer s H E cx => w_Tick___contains__ Z cx, F.bindsN fun _ _ _ _ _ _ us hl => match us, hl with | [_, _], _ => rfl⟩, F.kp⟩, Z.cls_Tick, Z.me_Tick___contains__, Z.fi_Tick___contains__⟩
theorem sc_Tick___sub__ : FnScope N_Tick___sub__ ["self", "ages"] (defScope s_Tick___sub__) := ⟨rfl, rfl, rfl, by decide +kernel, rfl, by decide +kernel, by decide +kernel⟩
theorem w_Tick___sub__ (Z : Fx P w K mg) {f : Addr} {cdv : Value} {A : Around} {outer : List Env} {s : Shared} {H : Hp} {E : XK} (cx : Ctx P w K mg base N_Tick___sub__ (defScope s_Tick___sub__) 6 (cxOf (L2.CX P w) P w K mg base N_Tick___sub__ "Tick.__sub__" (defScope s_Tick___sub__) f cdv A outer s H E) E) :
    ∃ ts, ASs K (cxOf (L2.CX P w) P w K mg base N_Tick___sub__ "Tick.__sub__" (defScope s_Tick___sub__) f cdv A outer s H E) E (defBody s_Tick___sub__) ts g_Tick___sub__ := ⟨_, (ass_cons (as_if (at_inO (neg := true) (dun_of (ok_Tick___contains__ Z) cx.px) (cx.room.mono (by decide)) (av 1) (av 0) rfl) (ass_one (as_raise (xmk_BadTick Z) (cx.room.mono (by decide)) cx.tk (aa_cons ae_str aa_nil))) ass_nil)
    (ass_cons (as_setLc 2 (own := [("own", 3)]) sc_Tick___sub__.nd (ai_tup (ae_fld (i := 0) (av 0) Z.cls_Tick Z.noat_Tick_sums)) rfl (fun s H C cl fp => (ag_name 3 sc_Tick___sub__.nd)) (fun s H C cl fp => (ats_one (at_cmp (op_neD (by exact un64 cx.room)) od_neD (av 3) (av 1) (nomark _)))) (fun s H C cl fp => (av 3)) rfl)
    (ass_one (as_ret (ae_mkS (kp := false) (mkc_Tick_mute Z cx.px) (cx.room.mono (by decide)) (av 2) (ak_cons (ae_fld (i := 1) (av 0) Z.cls_Tick Z.noat_Tick_mute) ak_nil) len_one)))))⟩
theorem ok_Tick___sub__ (Z : Fx P w K mg) : Mt P w K mg base 7 "Tick" (PySem.dunder (Operator.Sub).info.2) m_Tick___sub__ := by
  obtain ⟨fd, F⟩ := Z.d_Tick___sub__
  exact ⟨⟨⟨fd, ["self", "ages"], fn_ok F sc_Tick___sub__ fun cdv A outer s H E cx => w_Tick___sub__ Z cx, F.bindsN fun _ _ _ _ _ _ us hl => match us, hl with | [_, _], _ => rfl⟩, F.kp⟩, Z.cls_Tick, Z.me_Tick___sub__, Z.fi_Tick___sub__⟩
theorem sc_Bench_take : FnScope N_Bench_take ["self", "phase", "ages"] (defScope s_Bench_take) := ⟨rfl, rfl, rfl, by decide +kernel, rfl, by decide +kernel, by decide +kernel⟩
theorem w_Bench_take (Z : Fx P w K mg) {f : Addr} {cdv : Value} {A : Around} {outer : List Env} {s : Shared} {H : Hp} {E : XK} (cx : Ctx P w K mg base N_Bench_take (defScope s_Bench_take) 7 (cxOf (L2.CX P w) P w K mg base N_Bench_take "Bench.take" (defScope s_Bench_take) f cdv A outer s H E) E) :
    ∃ ts, ASs K (cxOf (L2.CX P w) P w K mg base N_Bench_take "Bench.take" (defScope s_Bench_take) f cdv A outer s H E) E (defBody s_Bench_take) ts g_Bench_take := ⟨_, (ass_cons (as_expr (ae_meth (met_of (ok_Bench_need_phase Z)) (cx.room.mono (by decide)) cx.px (av 0) (aa_cons (av 1) aa_nil)))
    (ass_one (as_expr (ae_meth (met_of (ok_Bench_done Z)) (cx.room.mono (by decide)) cx.px (av 0) (aa_cons ae_str (aa_cons (ae_meth (met_of (ok_Plan_with_phase Z)) (cx.room.mono (by decide)) cx.px (ae_fld (i := 0) (av 0) Z.cls_Bench Z.noat_Bench_own_now) (aa_cons (av 1) (aa_cons (ae_binO (dun_of (ok_Tick___sub__ Z) cx.px) (cx.room.mono (by decide)) (ae_ixO (dun_of (ok_Plan___getitem__ Z) cx.px) (Room.in1 (cx.room.mono (by decide))) (ae_fld (i := 0) (av 0) Z.cls_Bench Z.noat_Bench_own_now) (av 1)) (av 2) Z.bin_Tick_Sub.1 Z.bin_Tick_Sub.2.1 (.inl rfl) Z.bin_Tick_Sub.2.2.1 Z.bin_Tick_Sub.2.2.2.1 Z.bin_Tick_Sub.2.2.2.2) aa_nil))) aa_nil))))))⟩
theorem ok_Bench_take (Z : Fx P w K mg) : Mt P w K mg base 8 "Bench" "take" m_Bench_take := by
  obtain ⟨fd, F⟩ := Z.d_Bench_take
  exact ⟨⟨⟨fd, ["self", "phase", "ages"], fn_ok F sc_Bench_take fun cdv A outer s H E cx => w_Bench_take Z cx, F.bindsN fun _ _ _ _ _ _ us hl => match us, hl with | [_, _, _], _ => rfl⟩, F.kp⟩, Z.cls_Bench, Z.me_Bench_take, Z.fi_Bench_take⟩
theorem sc_Plan___rshift__ : FnScope N_Plan___rshift__ ["self", "number"] (defScope s_Plan___rshift__) := ⟨rfl, rfl, rfl, by decide +kernel, rfl, by decide +kernel, by decide +kernel⟩
theorem w_Plan___rshift__ (Z : Fx P w K mg) {f : Addr} {cdv : Value} {A : Around} {outer : List Env} {s : Shared} {H : Hp} {E : XK} (cx : Ctx P w K mg base N_Plan___rshift__ (defScope s_Plan___rshift__) 5 (cxOf (L2.CX P w) P w K mg base N_Plan___rshift__ "Plan.__rshift__" (defScope s_Plan___rshift__) f cdv A outer s H E) E) :
    ∃ ts, ASs K (cxOf (L2.CX P w) P w K mg base N_Plan___rshift__ "Plan.__rshift__" (defScope s_Plan___rshift__) f cdv A outer s H E) E (defBody s_Plan___rshift__) ts g_Plan___rshift__ := ⟨_, (ass_cons (as_if (AW.at (aw_or (at_not (at_val (ae_call (cal_of (ok_is_integer Z) Z.glo_is_integer) (cx.room.mono (by decide)) cx.px (aa_cons (av 1) aa_nil)))) (aw_or1 (at_cmp op_lt od_lt (av 1) ae_int (nomark _))))) (ass_one (as_raise (xmk_BadCount Z) (cx.room.mono (by decide)) cx.tk (aa_cons (av 1) aa_nil))) ass_nil)
    (ass_cons (as_setLc 2 (own := [("at", 3)]) sc_Plan___rshift__.nd (ai_range1 rfl Z.free_range (aa_cons (ae_blt call_len cd_len Z.free_len (aa_cons (ae_fld (i := 0) (av 0) Z.cls_Plan Z.noat_Plan_own_ticks) aa_nil)) aa_nil)) rfl (fun s H C cl fp => (ag_name 3 sc_Plan___rshift__.nd)) (fun s H C cl fp => ats_nil) (fun s H C cl fp => (ae_ix (ae_fld (i := 0) (av 0) Z.cls_Plan Z.noat_Plan_own_ticks) (ae_bin op_mod od_mod (ae_bin op_add od_add (av 3) (ae_ty call_int1 cd_int Z.free_int (aa_cons (av 1) aa_nil))) (ae_blt call_len cd_len Z.free_len (aa_cons (ae_fld (i := 0) (av 0) Z.cls_Plan Z.noat_Plan_own_ticks) aa_nil))) (by intro _ _; rfl))) rfl)
    (ass_one (as_ret (ae_mkS (kp := false) (mkc_Plan Z cx.px) (cx.room.mono (by decide)) (av 2) ak_nil (fun _ _ _ _ h => by cases h; rfl))))))⟩
theorem ok_Plan___rshift__ (Z : Fx P w K mg) : Mt P w K mg base 6 "Plan" (PySem.dunder (Operator.RShift).info.2) m_Plan___rshift__ := by
  obtain ⟨fd, F⟩ := Z.d_Plan___rshift__
  exact ⟨⟨⟨fd, ["self", "number"], fn_ok F sc_Plan___rshift__ fun cdv A outer s H E cx => w_Plan___rshift__ Z cx, F.bindsN fun _ _ _ _ _ _ us hl => match us, hl with | [_, _], _ => rfl⟩, F.kp⟩, Z.cls_Plan, Z.me_Plan___rshift__, Z.fi_Plan___rshift__⟩
theorem sc_Bench_turn : FnScope N_Bench_turn ["self", "n"] (defScope s_Bench_turn) := ⟨rfl, rfl, rfl, by decide +kernel, rfl, by decide +kernel, by decide +kernel⟩
theorem w_Bench_turn (Z : Fx P w K mg) {f : Addr} {cdv : Value} {A : Around} {outer : List Env} {s : Shared} {H : Hp} {E : XK} (cx : Ctx P w K mg base N_Bench_turn (defScope s_Bench_turn) 6 (cxOf (L2.CX P w) P w K mg base N_Bench_turn "Bench.turn" (defScope s_Bench_turn) f cdv A outer s H E) E) :
    ∃ ts, ASs K (cxOf (L2.CX P w) P w K mg base N_Bench_turn "Bench.turn" (defScope s_Bench_turn) f cdv A outer s H E) E (defBody s_Bench_turn) ts g_Bench_turn := ⟨_, (ass_one (as_expr (ae_meth (met_of (ok_Bench_done Z)) (cx.room.mono (by decide)) cx.px (av 0) (aa_cons ae_str (aa_cons (ae_binO (dun_of (ok_Plan___rshift__ Z) cx.px) (cx.room.mono (by decide)) (ae_fld (i := 0) (av 0) Z.cls_Bench Z.noat_Bench_own_now) (av 1) Z.bin_Plan_RShift.1 Z.bin_Plan_RShift.2.1 (.inl rfl) Z.bin_Plan_RShift.2.2.1 Z.bin_Plan_RShift.2.2.2.1 Z.bin_Plan_RShift.2.2.2.2) aa_nil)))))⟩
theorem ok_Bench_turn (Z : Fx P w K mg) : Mt P w K mg base 7 "Bench" "turn" m_Bench_turn := by
  obtain ⟨fd, F⟩ := Z.d_Bench_turn
  exact ⟨⟨⟨fd, ["self", "n"], fn_ok F sc_Bench_turn fun cdv A outer s H E cx => w_Bench_turn Z cx, F.bindsN fun _ _ _ _ _ _ us hl => match us, hl with | [_, _], _ => rfl⟩, F.kp⟩, Z.cls_Bench, Z.me_Bench_turn, Z.fi_Bench_turn⟩
theorem sc__law_pick : FnScope N__law_pick ["_law_pen_here", "_law_some"] (defScope s__law_pick) := ⟨rfl, rfl, rfl, by decide +kernel, rfl, by decide +kernel, by decide +kernel⟩
theorem w__law_pick (Z : Fx P w K mg) {f : Addr} {cdv : Value} {A : Around} {outer : List Env} {s : Shared} {H : Hp} {E : XK} (cx : Ctx P w K mg base N__law_pick (defScope s__law_pick) 1 (cxOf (L2.CX P w) P w K mg base N__law_pick "_law_pick" (defScope s__law_pick) f cdv A outer s H E) E) :
    ∃ ts, ASs K (cxOf (L2.CX P w) P w K mg base N__law_pick "_law_pick" (defScope s__law_pick) f cdv A outer s H E) E (defBody s__law_pick) ts g__law_pick := ⟨_, (ass_one (as_ret (ae_ix (av 1) (ae_call (cal_of (ok__law_draw Z) Z.glo__law_draw) (cx.room.mono (by decide)) cx.px (aa_cons (av 0) (aa_cons (ae_blt call_len cd_len Z.free_len (aa_cons (av 1) aa_nil)) aa_nil))) (by intro _ _; rfl))))⟩
theorem ok__law_pick (Z : Fx P w K mg) : Ok P w K mg base 2 (He.ga K "_law_pick") m__law_pick := by
  obtain ⟨fd, F⟩ := Z.d__law_pick
  exact ⟨⟨fd, ["_law_pen_here", "_law_some"], fn_ok F sc__law_pick fun cdv A outer s H E cx => w__law_pick Z cx, F.bindsN fun _ _ _ _ _ _ us hl => match us, hl with | [_, _], _ => rfl⟩, F.kp⟩
theorem sc__law_sum : FnScope N__law_sum ["_law_pen_here", "_law_is_mute"] (defScope s__law_sum) := ⟨rfl, rfl, rfl, by decide +kernel, rfl, by decide +kernel, by decide +kernel⟩
theorem w__law_sum (Z : Fx P w K mg) {f : Addr} {cdv : Value} {A : Around} {outer : List Env} {s : Shared} {H : Hp} {E : XK} (cx : Ctx P w K mg base N__law_sum (defScope s__law_sum) 1 (cxOf (L2.CX P w) P w K mg base N__law_sum "_law_sum" (defScope s__law_sum) f cdv A outer s H E) E) :
    ∃ ts, ASs K (cxOf (L2.CX P w) P w K mg base N__law_sum "_law_sum" (defScope s__law_sum) f cdv A outer s H E) E (defBody s__law_sum) ts g__law_sum := ⟨_, (ass_cons (as_setLc 2 (own := [("_law_age", 3)]) sc__law_sum.nd (ai_range2 rfl Z.free_range (aa_cons (ae_ty call_int1 cd_int Z.free_int (aa_cons (av 1) aa_nil)) (aa_cons ae_int aa_nil))) rfl (fun s H C cl fp => (ag_name 3 sc__law_sum.nd)) (fun s H C cl fp => (ats_one (at_cmp op_eq od_eqS (ae_call (cal_of (ok__law_draw Z) Z.glo__law_draw) (cx.room.mono (by decide)) pass_e0 (aa_cons (av 0) (aa_cons ae_int aa_nil))) ae_int (nomark _)))) (fun s H C cl fp => (av 3)) rfl)
    (ass_one (as_ret (ae_if (at_cmp (op_neD (by exact un64 cx.room)) od_neD (av 2) (ae_lst aa_nil) (nomark _)) (ae_ty call_tuple_of cd_tuple Z.free_tuple (aa_cons (av 2) aa_nil)) (ae_tup (aa_cons (ae_bin op_add od_add ae_int (ae_call (cal_of (ok__law_draw Z) Z.glo__law_draw) (cx.room.mono (by decide)) cx.px (aa_cons (av 0) (aa_cons ae_int aa_nil)))) aa_nil))))))⟩
theorem ok__law_sum (Z : Fx P w K mg) : Ok P w K mg base 2 (He.ga K "_law_sum") m__law_sum := by
  obtain ⟨fd, F⟩ := Z.d__law_sum
  exact ⟨⟨fd, ["_law_pen_here", "_law_is_mute"], fn_ok F sc__law_sum fun cdv A outer s H E cx => w__law_sum Z cx, F.bindsN fun _ _ _ _ _ _ us hl => match us, hl with | [_, _], _ => rfl⟩, F.kp⟩
theorem sc__law_tick : FnScope N__law_tick ["_law_pen_here"] (defScope s__law_tick) := ⟨rfl, rfl, rfl, by decide +kernel, rfl, by decide +kernel, by decide +kernel⟩
theorem w__law_tick (Z : Fx P w K mg) {f : Addr} {cdv : Value} {A : Around} {outer : List Env} {s : Shared} {H : Hp} {E : XK} (cx : Ctx P w K mg base N__law_tick (defScope s__law_tick) 2 (cxOf (L2.CX P w) P w K mg base N__law_tick "_law_tick" (defScope s__law_tick) f cdv A outer s H E) E) :
    ∃ ts, ASs K (cxOf (L2.CX P w) P w K mg base N__law_tick "_law_tick" (defScope s__law_tick) f cdv A outer s H E) E (defBody s__law_tick) ts g__law_tick := ⟨_, (ass_cons (as_par 1 2 sc__law_tick.nd (aa_cons (ae_cmp op_eq od_eqS (ae_call (cal_of (ok__law_draw Z) Z.glo__law_draw) (cx.room.mono (by decide)) cx.px (aa_cons (av 0) (aa_cons ae_int aa_nil))) ae_int (nomark _)) (aa_cons (ae_lstM aa_nil) aa_nil)))
    (ass_cons (as_for cx.own (ai_range1 rfl Z.free_range (aa_cons (ae_call (cal_of (ok__law_pick Z) Z.glo__law_pick) (cx.room.mono (by decide)) cx.px (aa_cons (av 0) (aa_cons (ae_lst (aa_cons ae_int (aa_cons ae_int (aa_cons ae_int (aa_cons ae_int (aa_cons ae_int aa_nil)))))) aa_nil))) aa_nil)) (ag_name 3 sc__law_tick.nd) (ass_cons (as_set 4 sc__law_tick.nd (ae_call (cal_of (ok__law_sum Z) Z.glo__law_sum) (cx.room.mono (by decide)) cx.px (aa_cons (av 0) (aa_cons (av 1) aa_nil))))
    (ass_one (as_if (at_cmp (op_notInD (by exact un65 cx.room)) od_notInD (av 4) (av 2) rfl) (ass_one (as_expr (ae_bm F.plainAttrs_list F.slot_list_append F.type_list_append mt_append md_append (av 2) (aa_cons (av 4) aa_nil)))) ass_nil))))
    (ass_one (as_ret (ae_tup (aa_cons (av 1) (aa_cons (av 2) aa_nil)))))))⟩
theorem ok__law_tick (Z : Fx P w K mg) : Ok P w K mg base 3 (He.ga K "_law_tick") m__law_tick := by
  obtain ⟨fd, F⟩ := Z.d__law_tick
  exact ⟨⟨fd, ["_law_pen_here"], fn_ok F sc__law_tick fun cdv A outer s H E cx => w__law_tick Z cx, F.bindsN fun _ _ _ _ _ _ us hl => match us, hl with | [_], _ => rfl⟩, F.kp⟩
theorem sc__law_edited : FnScope N__law_edited ["_law_pen_here", "_law_bench", "_law_ticks", "_law_way", "_law_phase"] (defScope s__law_edited) := ⟨rfl, rfl, rfl, by decide +kernel, rfl, by decide +kernel, by decide +kernel⟩
theorem w__law_edited (Z : Fx P w K mg) {f : Addr} {cdv : Value} {A : Around} {outer : List Env} {s : Shared} {H : Hp} {E : XK} (cx : Ctx P w K mg base N__law_edited (defScope s__law_edited) 8 (cxOf (L2.CX P w) P w K mg base N__law_edited "_law_edited" (defScope s__law_edited) f cdv A outer s H E) E) :
    ∃ ts, ASs K (cxOf (L2.CX P w) P w K mg base N__law_edited "_law_edited" (defScope s__law_edited) f cdv A outer s H E) E (defBody s__law_edited) ts g__law_edited := ⟨_, (ass_cons (as_asg (ae_ix (av 2) (av 4) (by intro _ _; rfl)) (ag_tup (ags_cons (ag_name 5 sc__law_edited.nd) (ags_cons (ag_name 6 sc__law_edited.nd) ags_nil))))
    (ass_cons (as_if (AW.at (aw_and (at_cmp op_eq od_eqS (av 3) ae_int (nomark _)) (aw_and1 (at_cmp op_lt od_lt (ae_blt call_len cd_len Z.free_len (aa_cons (av 6) aa_nil)) ae_int (nomark _))))) (ass_cons (as_set 7 sc__law_edited.nd (ae_call (cal_of (ok__law_sum Z) Z.glo__law_sum) (cx.room.mono (by decide)) cx.px (aa_cons (av 0) (aa_cons (av 5) aa_nil))))
    (ass_cons (as_if (at_cmp (op_inD (by exact un65 cx.room)) od_inD (av 7) (av 6) rfl) (ass_one (as_ret ae_non)) ass_nil)
    (ass_cons (as_expr (ae_meth (met_of (ok_Bench_put Z)) (cx.room.mono (by decide)) cx.px (av 1) (aa_cons (av 4) (aa_cons (av 7) aa_nil))))
    (ass_cons (as_asg (ae_tup (aa_cons (av 5) (aa_cons (ae_bin op_cat od_cat (av 6) (ae_lst (aa_cons (av 7) aa_nil))) aa_nil))) (ag_item (av 2) (av 4)))
    (ass_one (as_ret ae_str)))))) ass_nil)
    (ass_cons (as_if (AW.at (aw_and (at_cmp op_eq od_eqS (av 3) ae_int (nomark _)) (aw_and1 (at_cmp (op_neD (by exact un64 cx.room)) od_neD (av 6) (ae_lst aa_nil) (nomark _))))) (ass_cons (as_set 7 sc__law_edited.nd (ae_call (cal_of (ok__law_pick Z) Z.glo__law_pick) (cx.room.mono (by decide)) cx.px (aa_cons (av 0) (aa_cons (av 6) aa_nil))))
    (ass_cons (as_expr (ae_meth (met_of (ok_Bench_take Z)) (cx.room.mono (by decide)) cx.px (av 1) (aa_cons (av 4) (aa_cons (av 7) aa_nil))))
    (ass_cons (as_asg (ae_tup (aa_cons (av 5) (aa_cons (ae_lc (own := [("_law_one", 8)]) sc__law_edited.nd (ai_list (av 6)) rfl (fun s H C cl fp => (ag_name 8 sc__law_edited.nd)) (fun s H C cl fp => (ats_one (at_cmp (op_neD (by exact un64 cx.room)) od_neD (av 8) (av 7) (nomark _)))) (fun s H C cl fp => (av 8))) aa_nil))) (ag_item (av 2) (av 4)))
    (ass_one (as_ret ae_str))))) ass_nil)
    (ass_cons (as_if (at_cmp op_eq od_eqS (av 3) ae_int (nomark _)) (ass_cons (as_set 9 sc__law_edited.nd (ae_call (cal_of (ok__law_pick Z) Z.glo__law_pick) (cx.room.mono (by decide)) cx.px (aa_cons (av 0) (aa_cons (ae_lst (aa_cons ae_int (aa_cons ae_int (aa_cons ae_int (aa_cons ae_int (aa_cons ae_int (aa_cons ae_int (aa_cons (ae_bin op_pow od_pow ae_int ae_int) aa_nil)))))))) aa_nil))))
    (ass_cons (as_expr (ae_meth (met_of (ok_Bench_turn Z)) (cx.room.mono (by decide)) cx.px (av 1) (aa_cons (av 9) aa_nil)))
    (ass_cons (as_set 10 sc__law_edited.nd (ae_bin op_mod od_mod (ae_ty call_int1 cd_int Z.free_int (aa_cons (av 9) aa_nil)) (ae_blt call_len cd_len Z.free_len (aa_cons (av 2) aa_nil))))
    (ass_cons (as_asg (ae_bin op_cat od_cat (ae_slice (av 2) (ao_some (av 10)) ao_none) (ae_slice (av 2) ao_none (ao_some (av 10)))) (ag_all1 (av 2)))
    (ass_one (as_ret ae_str)))))) ass_nil)
    (ass_cons (as_if (at_cmp op_eq od_eqS (av 3) ae_int (nomark _)) (ass_cons (as_asg (ae_lc (own := [("_law_turn_so", 11)]) sc__law_edited.nd (ai_range1 rfl Z.free_range (aa_cons (ae_bin op_add od_add ae_int (ae_call (cal_of (ok__law_draw Z) Z.glo__law_draw) (cx.room.mono (by decide)) cx.px (aa_cons (av 0) (aa_cons ae_int aa_nil)))) aa_nil)) rfl (fun s H C cl fp => (ag_name 11 sc__law_edited.nd)) (fun s H C cl fp => ats_nil) (fun s H C cl fp => (ae_call (cal_of (ok__law_tick Z) Z.glo__law_tick) (cx.room.mono (by decide)) pass_e0 (aa_cons (av 0) aa_nil)))) (ag_all1 (av 2)))
    (ass_cons (as_expr (ae_meth (met_of (ok_Bench_replace Z)) (cx.room.mono (by decide)) cx.px (av 1) (aa_cons (ae_cm (cmc (ok_Plan_read Z) Z.cm_Plan_read Z.glo_Plan cx.px) (cx.room.mono (by decide)) (aa_cons (ae_call (cal_of (ok__law_plan_text Z) Z.glo__law_plan_text) (cx.room.mono (by decide)) cx.px (aa_cons (av 2) aa_nil)) aa_nil)) aa_nil)))
    (ass_one (as_ret ae_str)))) ass_nil)
    (ass_one (as_ret ae_non)))))))⟩
theorem ok__law_edited (Z : Fx P w K mg) : Ok P w K mg base 9 (He.ga K "_law_edited") m__law_edited := by
  obtain ⟨fd, F⟩ := Z.d__law_edited
  exact ⟨⟨fd, ["_law_pen_here", "_law_bench", "_law_ticks", "_law_way", "_law_phase"], fn_ok F sc__law_edited fun cdv A outer s H E cx => w__law_edited Z cx, F.bindsN fun _ _ _ _ _ _ us hl => match us, hl with | [_, _, _, _, _], _ => rfl⟩, F.kp⟩
theorem sc_Bench___setitem__ : FnScope N_Bench___setitem__ ["self", "phase", "tick"] (defScope s_Bench___setitem__) := ⟨rfl, rfl, rfl, by decide +kernel, rfl, by decide +kernel, by decide +kernel⟩
theorem w_Bench___setitem__ (Z : Fx P w K mg) {f : Addr} {cdv : Value} {A : Around} {outer : List Env} {s : Shared} {H : Hp} {E : XK} (cx : Ctx P w K mg base N_Bench___setitem__ (defScope s_Bench___setitem__) 6 (cxOf (L2.CX P w) P w K mg base N_Bench___setitem__ "Bench.__setitem__" (defScope s_Bench___setitem__) f cdv A outer s H E) E) :
    ∃ ts, ASs K (cxOf (L2.CX P w) P w K mg base N_Bench___setitem__ "Bench.__setitem__" (defScope s_Bench___setitem__) f cdv A outer s H E) E (defBody s_Bench___setitem__) ts g_Bench___setitem__ := ⟨_, (ass_cons (as_expr (ae_meth (met_of (ok_Bench_need_phase Z)) (cx.room.mono (by decide)) cx.px (av 0) (aa_cons (av 1) aa_nil)))
    (ass_cons (as_expr (ae_call (cal_of (ok_need_tick Z) Z.glo_need_tick) (cx.room.mono (by decide)) cx.px (aa_cons (av 2) aa_nil)))
    (ass_one (as_expr (ae_meth (met_of (ok_Bench_done Z)) (cx.room.mono (by decide)) cx.px (av 0) (aa_cons ae_str (aa_cons (ae_meth (met_of (ok_Plan_with_phase Z)) (cx.room.mono (by decide)) cx.px (ae_fld (i := 0) (av 0) Z.cls_Bench Z.noat_Bench_own_now) (aa_cons (av 1) (aa_cons (av 2) aa_nil))) aa_nil)))))))⟩
theorem ok_Bench___setitem__ (Z : Fx P w K mg) : Mt P w K mg base 7 "Bench" "__setitem__" m_Bench___setitem__ := by
  obtain ⟨fd, F⟩ := Z.d_Bench___setitem__
  exact ⟨⟨⟨fd, ["self", "phase", "tick"], fn_ok F sc_Bench___setitem__ fun cdv A outer s H E cx => w_Bench___setitem__ Z cx, F.bindsN fun _ _ _ _ _ _ us hl => match us, hl with | [_, _, _], _ => rfl⟩, F.kp⟩, Z.cls_Bench, Z.me_Bench___setitem__, Z.fi_Bench___setitem__⟩
theorem sc__law_set : FnScope N__law_set ["_law_bench", "_law_phase", "_law_tick_here"] (defScope s__law_set) := ⟨rfl, rfl, rfl, by decide +kernel, rfl, by decide +kernel, by decide +kernel⟩
theorem w__law_set (Z : Fx P w K mg) {f : Addr} {cdv : Value} {A : Around} {outer : List Env} {s : Shared} {H : Hp} {E : XK} (cx : Ctx P w K mg base N__law_set (defScope s__law_set) 7 (cxOf (L2.CX P w) P w K mg base N__law_set "_law_set" (defScope s__law_set) f cdv A outer s H E) E) :
    ∃ ts, ASs K (cxOf (L2.CX P w) P w K mg base N__law_set "_law_set" (defScope s__law_set) f cdv A outer s H E) E (defBody s__law_set) ts g__law_set := ⟨_, (ass_one (as_asg (av 2) (ag_itemO (dun_of (ok_Bench___setitem__ Z) cx.px) (cx.room.mono (by decide)) Z.noseq_Bench (av 0) (av 1))))⟩
theorem ok__law_set (Z : Fx P w K mg) : Ok P w K mg base 8 (He.ga K "_law_set") m__law_set := by
  obtain ⟨fd, F⟩ := Z.d__law_set
  exact ⟨⟨fd, ["_law_bench", "_law_phase", "_law_tick_here"], fn_ok F sc__law_set fun cdv A outer s H E cx => w__law_set Z cx, F.bindsN fun _ _ _ _ _ _ us hl => match us, hl with | [_, _, _], _ => rfl⟩, F.kp⟩
theorem sc__law_deed : FnScope N__law_deed ["_law_pen_here", "_law_bench", "_law_ticks"] (defScope s__law_deed) := ⟨rfl, rfl, rfl, by decide +kernel, rfl, by decide +kernel, by decide +kernel⟩
theorem w__law_deed (Z : Fx P w K mg) {f : Addr} {cdv : Value} {A : Around} {outer : List Env} {s : Shared} {H : Hp} {E : XK} (cx : Ctx P w K mg base N__law_deed (defScope s__law_deed) 9 (cxOf (L2.CX P w) P w K mg base N__law_deed "_law_deed" (defScope s__law_deed) f cdv A outer s H E) E) :
    ∃ ts, ASs K (cxOf (L2.CX P w) P w K mg base N__law_deed "_law_deed" (defScope s__law_deed) f cdv A outer s H E) E (defBody s__law_deed) ts g__law_deed := ⟨_, (ass_cons (as_par3 3 4 5 sc__law_deed.nd (aa_cons (ae_call (cal_of (ok__law_draw Z) Z.glo__law_draw) (cx.room.mono (by decide)) cx.px (aa_cons (av 0) (aa_cons ae_int aa_nil))) (aa_cons (ae_call (cal_of (ok__law_draw Z) Z.glo__law_draw) (cx.room.mono (by decide)) cx.px (aa_cons (av 0) (aa_cons (ae_blt call_len cd_len Z.free_len (aa_cons (av 2) aa_nil)) aa_nil))) (aa_cons (ae_call (cal_of (ok__law_tick Z) Z.glo__law_tick) (cx.room.mono (by decide)) cx.px (aa_cons (av 0) aa_nil)) aa_nil))))
    (ass_cons (as_set 6 sc__law_deed.nd (ae_cm (cmc (ok_Tick_read Z) Z.cm_Tick_read Z.glo_Tick cx.px) (cx.room.mono (by decide)) (aa_cons (ae_call (cal_of (ok__law_tick_text Z) Z.glo__law_tick_text) (cx.room.mono (by decide)) cx.px (aa_cons (av 5) aa_nil)) aa_nil)))
    (ass_cons (as_if (AW.at (aw_and (at_cmp op_eq od_eqS (av 3) ae_int (nomark _)) (aw_and1 (at_cmp op_lt od_lt (ae_blt call_len cd_len Z.free_len (aa_cons (av 2) aa_nil)) ae_int (nomark _))))) (ass_cons (as_expr (ae_bm F.plainAttrs_list F.slot_list_append F.type_list_append mt_append md_append (av 2) (aa_cons (av 5) aa_nil)))
    (ass_one (as_ret (ae_if (at_cmp op_eq od_eqS (ae_meth (met_of (ok_Bench_add Z)) (cx.room.mono (by decide)) cx.px (av 1) (aa_cons (av 6) aa_nil)) (ae_bin op_sub od_sub (ae_blt call_len cd_len Z.free_len (aa_cons (av 2) aa_nil)) ae_int) (nomark _)) ae_str ae_str)))) ass_nil)
    (ass_cons (as_if (AW.at (aw_and (at_cmp op_eq od_eqS (av 3) ae_int (nomark _)) (aw_and1 (at_cmp op_gt od_gt (ae_blt call_len cd_len Z.free_len (aa_cons (av 2) aa_nil)) ae_int (nomark _))))) (ass_cons (as_set 7 sc__law_deed.nd (ae_strO (dun_of (ok_Tick___str__ Z) cx.px) (Room.in1 (Room.in1 (cx.room.mono (by decide)))) Z.free_str (aa_cons (ae_meth (met_of (ok_Bench_drop Z)) (cx.room.mono (by decide)) cx.px (av 1) (aa_cons (av 4) aa_nil)) aa_nil)))
    (ass_one (as_ret (ae_if (at_cmp op_eq od_eqS (av 7) (ae_call (cal_of (ok__law_tick_text Z) Z.glo__law_tick_text) (cx.room.mono (by decide)) cx.px (aa_cons (ae_bm F.plainAttrs_list F.slot_list_pop F.type_list_pop mt_popAt md_pop (av 2) (aa_cons (av 4) aa_nil)) aa_nil)) (nomark _)) ae_str ae_str)))) ass_nil)
    (ass_cons (as_if (at_cmp op_eq od_eqS (av 3) ae_int (nomark _)) (ass_cons (as_expr (ae_call (cal_of (ok__law_set Z) Z.glo__law_set) (cx.room.mono (by decide)) cx.px (aa_cons (av 1) (aa_cons (av 4) (aa_cons (av 6) aa_nil)))))
    (ass_cons (as_asg (av 5) (ag_item (av 2) (av 4)))
    (ass_one (as_ret ae_str)))) ass_nil)
    (ass_one (as_ret (ae_call (cal_of (ok__law_edited Z) Z.glo__law_edited) (cx.room.mono (by decide)) cx.px (aa_cons (av 0) (aa_cons (av 1) (aa_cons (av 2) (aa_cons (av 3) (aa_cons (av 4) aa_nil)))))))))))))⟩
theorem ok__law_deed (Z : Fx P w K mg) : Ok P w K mg base 10 (He.ga K "_law_deed") m__law_deed := by
  obtain ⟨fd, F⟩ := Z.d__law_deed
  exact ⟨⟨fd, ["_law_pen_here", "_law_bench", "_law_ticks"], fn_ok F sc__law_deed fun cdv A outer s H E cx => w__law_deed Z cx, F.bindsN fun _ _ _ _ _ _ us hl => match us, hl with | [_, _, _], _ => rfl⟩, F.kp⟩
theorem sc__law_pen : FnScope N__law_pen ["_law_script"] (defScope s__law_pen) := ⟨rfl, rfl, rfl, by decide +kernel, rfl, by decide +kernel, by decide +kernel⟩
theorem w__law_pen (Z : Fx P w K mg) {f : Addr} {cdv : Value} {A : Around} {outer : List Env} {s : Shared} {H : Hp} {E : XK} (cx : Ctx P w K mg base N__law_pen (defScope s__law_pen) 0 (cxOf (L2.CX P w) P w K mg base N__law_pen "_law_pen" (defScope s__law_pen) f cdv A outer s H E) E) :
    ∃ ts, ASs K (cxOf (L2.CX P w) P w K mg base N__law_pen "_law_pen" (defScope s__law_pen) f cdv A outer s H E) E (defBody s__law_pen) ts g__law_pen := ⟨_, (ass_one (as_ret (ae_lstM (aa_cons (ae_ty call_list_of cd_listF Z.free_list (aa_cons (ae_slice (av 0) ao_none (ao_some ae_int)) aa_nil)) (aa_cons ae_int (aa_cons ae_int aa_nil))))))⟩
theorem ok__law_pen (Z : Fx P w K mg) : Ok P w K mg base 1 (He.ga K "_law_pen") m__law_pen := by
  obtain ⟨fd, F⟩ := Z.d__law_pen
  exact ⟨⟨fd, ["_law_script"], fn_ok F sc__law_pen fun cdv A outer s H E cx => w__law_pen Z cx, F.bindsN fun _ _ _ _ _ _ us hl => match us, hl with | [_], _ => rfl⟩, F.kp⟩
theorem sc_Tick___eq__ : FnScope N_Tick___eq__ ["self", "other"] (defScope s_Tick___eq__) := ⟨rfl, rfl, rfl, by decide +kernel, rfl, by decide +kernel, by decide +kernel⟩
theorem w_Tick___eq__ (Z : Fx P w K mg) {f : Addr} {cdv : Value} {A : Around} {outer : List Env} {s : Shared} {H : Hp} {E : XK} (cx : Ctx P w K mg base N_Tick___eq__ (defScope s_Tick___eq__) 0 (cxOf (L2.CX P w) P w K mg base N_Tick___eq__ "Tick.__eq__" (defScope s_Tick___eq__) f cdv A outer s H E) E) :
    ∃ ts, ASs K (cxOf (L2.CX P w) P w K mg base N_Tick___eq__ "Tick.__eq__" (defScope s_Tick___eq__) f cdv A outer s H E) E (defBody s_Tick___eq__) ts g_Tick___eq__ := ⟨_, (ass_one (as_ret (ae_and (ae_isi Z.isf (tab_ok_Tick Z) (.own _) Z.free_isinstance (av 1) (pe_glob rfl Z.glo_Tick rfl)) (ae_and (ae_cmp (op_eqD (by exact un64 cx.room)) od_eqD (ae_fld (i := 0) (av 0) Z.cls_Tick Z.noat_Tick_sums) (ae_fld (i := 0) (av 1) Z.cls_Tick Z.noat_Tick_sums) (nomark _)) (ae_one (ae_cmp op_eq od_eqS (ae_fld (i := 1) (av 0) Z.cls_Tick Z.noat_Tick_mute) (ae_fld (i := 1) (av 1) Z.cls_Tick Z.noat_Tick_mute) (nomark _)))))))⟩
theorem ok_Tick___eq__ (Z : Fx P w K mg) : Mt P w K mg base 1 "Tick" "__eq__" m_Tick___eq__ := by
  obtain ⟨fd, F⟩ := Z.d_Tick___eq__
  exact ⟨⟨⟨fd, ["self", "other"], fn_ok F sc_Tick___eq__ fun cdv A outer s H E cx => w_Tick___eq__ Z cx, F.bindsN fun _ _ _ _ _ _ us hl => match us, hl with | [_, _], _ => rfl⟩, F.kp⟩, Z.cls_Tick, Z.me_Tick___eq__, Z.fi_Tick___eq__⟩
theorem sc_Plan___eq__ : FnScope N_Plan___eq__ ["self", "other"] (defScope s_Plan___eq__) := ⟨rfl, rfl, rfl, by decide +kernel, rfl, by decide +kernel, by decide +kernel⟩
theorem w_Plan___eq__ (Z : Fx P w K mg) {f : Addr} {cdv : Value} {A : Around} {outer : List Env} {s : Shared} {H : Hp} {E : XK} (cx : Ctx P w K mg base N_Plan___eq__ (defScope s_Plan___eq__) 2 (cxOf (L2.CX P w) P w K mg base N_Plan___eq__ "Plan.__eq__" (defScope s_Plan___eq__) f cdv A outer s H E) E) :
    ∃ ts, ASs K (cxOf (L2.CX P w) P w K mg base N_Plan___eq__ "Plan.__eq__" (defScope s_Plan___eq__) f cdv A outer s H E) E (defBody s_Plan___eq__) ts g_Plan___eq__ := ⟨_, (ass_one (as_ret (ae_and (ae_isi Z.isf (tab_ok_Plan Z) (.own _) Z.free_isinstance (av 1) (pe_glob rfl Z.glo_Plan rfl)) (ae_one (ae_cmp (op_q (rcM_tup (eqM_one (rcm_eq (ok_Tick___eq__ Z) cx.px Z.nf_Tick_Tick))) (cx.room.mono (by decide)) (fun _ _ => rfl)) od_q (ae_fld (i := 0) (av 0) Z.cls_Plan Z.noat_Plan_own_ticks) (ae_fld (i := 0) (av 1) Z.cls_Plan Z.noat_Plan_own_ticks) (nomark _))))))⟩
theorem ok_Plan___eq__ (Z : Fx P w K mg) : Mt P w K mg base 3 "Plan" "__eq__" m_Plan___eq__ := by
  obtain ⟨fd, F⟩ := Z.d_Plan___eq__
  exact ⟨⟨⟨fd, ["self", "other"], fn_ok F sc_Plan___eq__ fun cdv A outer s H E cx => w_Plan___eq__ Z cx, F.bindsN fun _ _ _ _ _ _ us hl => match us, hl with | [_, _], _ => rfl⟩, F.kp⟩, Z.cls_Plan, Z.me_Plan___eq__, Z.fi_Plan___eq__⟩
theorem sc__law_refused_right : FnScope N__law_refused_right ["_law_bench"] (defScope s__law_refused_right) := ⟨rfl, rfl, rfl, by decide +kernel, rfl, by decide +kernel, by decide +kernel⟩
theorem w__law_refused_right (Z : Fx P w K mg) (TB : ∀ p ∈ csK K, LamX.TabB base mg p.1 p.2) {c P0 : Addr} (ht : PySem.W.tabIn K "_law_refused_right" = some (c, P0)) {f : Addr} {A : Around} {outer : List Env} {s : Shared} {H : Hp} {E : XK} (cx : Ctx P w K mg base N__law_refused_right (defScope s__law_refused_right) 10 (cxOf (L2.CX P w) P w K mg base N__law_refused_right "_law_refused_right" (defScope s__law_refused_right) f (.ref c) A outer s H E) E) (gd : (cxOf (L2.CX P w) P w K mg base N__law_refused_right "_law_refused_right" (defScope s__law_refused_right) f (.ref c) A outer s H E).A.guards = some []) :
    ∃ ts, ASs K (cxOf (L2.CX P w) P w K mg base N__law_refused_right "_law_refused_right" (defScope s__law_refused_right) f (.ref c) A outer s H E) E (defBody s__law_refused_right) ts g__law_refused_right := ⟨_, (ass_cons (as_asg (ae_tup (aa_cons (ae_prop (prc Z.cls_Bench (ok_Bench_now Z) Z.prop_Bench_now) (cx.room.mono (by decide)) (av 0)) (aa_cons (ae_lenO (dun_of (ok_Bench___len__ Z) cx.px) (Room.in1 (cx.room.mono (by decide))) Z.free_len (aa_cons (av 0) aa_nil)) aa_nil))) (ag_tup (ags_cons (ag_name 1 sc__law_refused_right.nd) (ags_cons (ag_name 2 sc__law_refused_right.nd) ags_nil))))
    (ass_cons (as_set 3 sc__law_refused_right.nd (ae_lstM (aa_cons (aeh Z gd (k := 7) TB ht (cx.room.mono (by decide)) (LamX.lamS_by (sc := defScope s__law_refused_right) (by decide +kernel)) (fun E => ⟨_, fun A outer s H f c2 ga hr => have cx := RL.ctx_lam (N := N__law_refused_right) hr; (ae_meth (met_of (ok_Bench_add Z)) (cx.room.mono (by decide)) cx.px (av 0) (aa_cons ae_non aa_nil))⟩)) aa_nil)))
    (ass_cons (as_expr (ae_bm F.plainAttrs_list F.slot_list_append F.type_list_append mt_append md_append (av 3) (aa_cons (aeh Z gd (k := 7) TB ht (cx.room.mono (by decide)) (LamX.lamS_by (sc := defScope s__law_refused_right) (by decide +kernel)) (fun E => ⟨_, fun A outer s H f c2 ga hr => have cx := RL.ctx_lam (N := N__law_refused_right) hr; (ae_meth (met_of (ok_Bench_drop Z)) (cx.room.mono (by decide)) cx.px (av 0) (aa_cons (ae_lenO (dun_of (ok_Plan___len__ Z) cx.px) (Room.in1 (cx.room.mono (by decide))) Z.free_len (aa_cons (av 1) aa_nil)) aa_nil))⟩)) aa_nil)))
    (ass_cons (as_expr (ae_bm F.plainAttrs_list F.slot_list_append F.type_list_append mt_append md_append (av 3) (aa_cons (aeh Z gd (k := 5) TB ht (cx.room.mono (by decide)) (LamX.lamS_by (sc := defScope s__law_refused_right) (by decide +kernel)) (fun E => ⟨_, fun A outer s H f c2 ga hr => have cx := RL.ctx_lam (N := N__law_refused_right) hr; (ae_meth (met_of (ok_Bench_replace Z)) (cx.room.mono (by decide)) cx.px (av 0) (aa_cons ae_str aa_nil))⟩)) aa_nil)))
    (ass_cons (as_expr (ae_bm F.plainAttrs_list F.slot_list_append F.type_list_append mt_append md_append (av 3) (aa_cons (aeh Z gd (k := 8) TB ht (cx.room.mono (by decide)) (LamX.lamS_by (sc := defScope s__law_refused_right) (by decide +kernel)) (fun E => ⟨_, fun A outer s H f c2 ga hr => have cx := RL.ctx_lam (N := N__law_refused_right) hr; (ae_call (cal_of (ok__law_set Z) Z.glo__law_set) (cx.room.mono (by decide)) cx.px (aa_cons (av 0) (aa_cons ae_int (aa_cons (ae_tup (aa_cons ae_int aa_nil)) aa_nil))))⟩)) aa_nil)))
    (ass_one (as_ret (ae_and (ae_cmp (op_eqD (by exact un64 cx.room)) od_eqD (av 3) (ae_bin op_rep od_rep (ae_lst (aa_cons (ae_tup (aa_cons ae_str aa_nil)) aa_nil)) ae_int) (nomark _)) (ae_and (ae_cmp (op_q (rcm_eq (ok_Plan___eq__ Z) cx.px Z.nf_Plan_Plan) (cx.room.mono (by decide)) (fun _ _ => rfl)) od_q (ae_prop (prc Z.cls_Bench (ok_Bench_now Z) Z.prop_Bench_now) (cx.room.mono (by decide)) (av 0)) (av 1) (nomark _)) (ae_one (ae_cmp op_eq od_eqS (ae_lenO (dun_of (ok_Bench___len__ Z) cx.px) (Room.in1 (cx.room.mono (by decide))) Z.free_len (aa_cons (av 0) aa_nil)) (av 2) (nomark _))))))))))))⟩
theorem ok__law_refused_right (Z : Fx P w K mg) (TB : ∀ p ∈ csK K, LamX.TabB base mg p.1 p.2) : FnG P w K mg base 11 (He.ga K "_law_refused_right") m__law_refused_right ∧ PySem.W.keepIn K (.ref (He.ga K "_law_refused_right")) = true := by
  obtain ⟨fd, F⟩ := Z.d__law_refused_right
  obtain ⟨c, P0, ht, hcode⟩ := lamAt_of Z.lam__law_refused_right
  obtain ⟨oc, od, dV, kV, doc, pm, an, cdv, ct, osl, e1, lk, _⟩ := id F.ex
  exact ⟨fng_ofL F sc__law_refused_right (F.bindsN (ps := ["_law_bench"]) fun _ _ _ _ _ _ us hl => match us, hl with | [_], _ => rfl) (hcode _ _ _ _ lk) fun A outer s H E cx gd => w__law_refused_right Z TB ht cx gd, F.kp⟩
theorem sc_law : FnScope N_law ["_law_script"] (defScope s_law) := ⟨rfl, rfl, rfl, by decide +kernel, rfl, by decide +kernel, by decide +kernel⟩
theorem w_law (Z : Fx P w K mg) (TB : ∀ p ∈ csK K, LamX.TabB base mg p.1 p.2) {f : Addr} {cdv : Value} {A : Around} {outer : List Env} {s : Shared} {H : Hp} {E : XK} (cx : Ctx P w K mg base N_law (defScope s_law) 11 (cxOf (L2.CX P w) P w K mg base N_law "law" (defScope s_law) f cdv A outer s H E) E) (gd : (cxOf (L2.CX P w) P w K mg base N_law "law" (defScope s_law) f cdv A outer s H E).A.guards = some []) :
    ∃ ts, ASs K (cxOf (L2.CX P w) P w K mg base N_law "law" (defScope s_law) f cdv A outer s H E) E (defBody s_law) ts g_law := ⟨_, (ass_cons (as_set 1 sc_law.nd (ae_call (cal_of (ok__law_pen Z) Z.glo__law_pen) (cx.room.mono (by decide)) cx.px (aa_cons (av 0) aa_nil)))
    (ass_cons (as_for cx.own (ai_range1 rfl Z.free_range (aa_cons ae_int aa_nil)) (ag_name 2 sc_law.nd) (ass_cons (as_par 3 4 sc_law.nd (aa_cons (ae_lcM (own := [("_law_turn_so", 5)]) sc_law.nd (ai_range1 rfl Z.free_range (aa_cons (ae_bin op_add od_add ae_int (ae_call (cal_of (ok__law_draw Z) Z.glo__law_draw) (cx.room.mono (by decide)) cx.px (aa_cons (av 1) (aa_cons ae_int aa_nil)))) aa_nil)) rfl (fun s H C cl fp => (ag_name 5 sc_law.nd)) (fun s H C cl fp => ats_nil) (fun s H C cl fp => (ae_call (cal_of (ok__law_tick Z) Z.glo__law_tick) (cx.room.mono (by decide)) pass_e0 (aa_cons (av 1) aa_nil)))) (aa_cons (ae_lstM aa_nil) aa_nil)))
    (ass_cons (as_set 6 sc_law.nd (ae_mk (kp := true) (mkc_Bench Z cx.px) (cx.room.mono (by decide)) (aa_cons (ae_cm (cmc (ok_Plan_read Z) Z.cm_Plan_read Z.glo_Plan cx.px) (cx.room.mono (by decide)) (aa_cons (ae_call (cal_of (ok__law_plan_text Z) Z.glo__law_plan_text) (cx.room.mono (by decide)) cx.px (aa_cons (av 3) aa_nil)) aa_nil)) aa_nil) ak_nil (fun _ _ _ _ h => by cases h; rfl)))
    (ass_cons (as_for cx.own (ai_range1 rfl Z.free_range (aa_cons ae_int aa_nil)) (ag_name 5 sc_law.nd) (ass_cons (as_if (at_cmp op_eq od_eqS (ae_call (cal_of (ok__law_draw Z) Z.glo__law_draw) (cx.room.mono (by decide)) cx.px (aa_cons (av 1) (aa_cons ae_int aa_nil))) ae_int (nomark _)) (ass_one (as_if (at_not (at_val (ae_callG (calg_of (ok__law_back_right Z TB) Z.glo__law_back_right cx.px) (cx.room.mono (by decide)) gd (aa_cons (av 6) (aa_cons (av 4) (aa_cons (av 3) aa_nil)))))) (ass_one (as_ret ae_bl)) ass_nil)) (ass_cons (as_set 7 sc_law.nd (ae_ty call_list_of cd_listF Z.free_list (aa_cons (av 3) aa_nil)))
    (ass_cons (as_set 8 sc_law.nd (ae_call (cal_of (ok__law_deed Z) Z.glo__law_deed) (cx.room.mono (by decide)) cx.px (aa_cons (av 1) (aa_cons (av 6) (aa_cons (av 3) aa_nil)))))
    (ass_one (as_if (at_cmp op_notN od_notN (av 8) ae_non (nomark _)) (ass_one (as_expr (ae_bm F.plainAttrs_list F.slot_list_append F.type_list_append mt_append md_append (av 4) (aa_cons (ae_tup (aa_cons (av 8) (aa_cons (av 7) aa_nil))) aa_nil)))) ass_nil)))))
    (ass_one (as_if (AW.at (aw_or (at_cmp op_ne od_neS (ae_strO (dun_of (ok_Plan___str__ Z) cx.px) (Room.in1 (Room.in1 (cx.room.mono (by decide)))) Z.free_str (aa_cons (ae_prop (prc Z.cls_Bench (ok_Bench_now Z) Z.prop_Bench_now) (cx.room.mono (by decide)) (av 6)) aa_nil)) (ae_call (cal_of (ok__law_plan_text Z) Z.glo__law_plan_text) (cx.room.mono (by decide)) cx.px (aa_cons (av 3) aa_nil)) (nomark _)) (aw_or (at_cmp op_ne od_neS (ae_lenO (dun_of (ok_Bench___len__ Z) cx.px) (Room.in1 (cx.room.mono (by decide))) Z.free_len (aa_cons (av 6) aa_nil)) (ae_blt call_len cd_len Z.free_len (aa_cons (av 4) aa_nil)) (nomark _)) (aw_or1 (at_not (at_val (ae_callG (calg_of (ok__law_refused_right Z TB) Z.glo__law_refused_right cx.px) (cx.room.mono (by decide)) gd (aa_cons (av 6) aa_nil)))))))) (ass_one (as_ret ae_bl)) ass_nil))))
    (ass_one (as_for cx.own (ai_range1 rfl Z.free_range (aa_cons (ae_bin op_add od_add (ae_blt call_len cd_len Z.free_len (aa_cons (av 4) aa_nil)) ae_int) aa_nil)) (ag_name 5 sc_law.nd) (ass_one (as_if (at_not (at_val (ae_callG (calg_of (ok__law_back_right Z TB) Z.glo__law_back_right cx.px) (cx.room.mono (by decide)) gd (aa_cons (av 6) (aa_cons (av 4) (aa_cons (av 3) aa_nil)))))) (ass_one (as_ret ae_bl)) ass_nil))))))))
    (ass_one (as_ret ae_bl))))⟩
theorem ok_law (Z : Fx P w K mg) (TB : ∀ p ∈ csK K, LamX.TabB base mg p.1 p.2) : FnG P w K mg base 12 (He.ga K "law") m_law ∧ PySem.W.keepIn K (.ref (He.ga K "law")) = true := by
  obtain ⟨fd, F⟩ := Z.d_law
  exact ⟨fng_of F sc_law (F.bindsN (ps := ["_law_script"]) fun _ _ _ _ _ _ us hl => match us, hl with | [_], _ => rfl) fun cdv A outer s H E cx gd => w_law Z TB cx gd, F.kp⟩
end
end K81
set_option Elab.async false
set_option linter.all false
set_option maxRecDepth 100000
set_option maxHeartbeats 0
/-! the head: facts by names, the run of the top -/
namespace K81
open RL PySem PySem.Spec PyProof.Rows L2
def exs : List Tst := [
  fun K => He.Fa.ok K (.glo "BadBench"),
  fun K => He.Fa.ok K (.glo "BadCount"),
  fun K => He.Fa.ok K (.glo "BadPlan"),
  fun K => He.Fa.ok K (.glo "BadText"),
  fun K => He.Fa.ok K (.glo "BadTick"),
  fun K => He.Fa.ok K (.glo "Bench"),
  fun K => He.Fa.ok K (.glo "NoPhase"),
  fun K => He.Fa.ok K (.glo "Nothing"),
  fun K => He.Fa.ok K (.glo "Plan"),
  fun K => He.Fa.ok K (.glo "RepairError"),
  fun K => He.Fa.ok K (.glo "Tick"),
  fun K => He.Fa.ok K (.glo "TooMany"),
  fun K => He.Fa.ok K (.glo "_law_back_right"),
  fun K => He.Fa.ok K (.glo "_law_deed"),
  fun K => He.Fa.ok K (.glo "_law_draw"),
  fun K => He.Fa.ok K (.glo "_law_edited"),
  fun K => He.Fa.ok K (.glo "_law_heard"),
  fun K => He.Fa.ok K (.glo "_law_pen"),
  fun K => He.Fa.ok K (.glo "_law_pick"),
  fun K => He.Fa.ok K (.glo "_law_plan_text"),
  fun K => He.Fa.ok K (.glo "_law_refused_right"),
  fun K => He.Fa.ok K (.glo "_law_set"),
  fun K => He.Fa.ok K (.glo "_law_sum"),
  fun K => He.Fa.ok K (.glo "_law_tick"),
  fun K => He.Fa.ok K (.glo "_law_tick_text"),
  fun K => He.Fa.ok K (.glo "is_age"),
  fun K => He.Fa.ok K (.glo "is_integer"),
  fun K => He.Fa.ok K (.glo "is_sum"),
  fun K => He.Fa.ok K (.glo "is_within"),
  fun K => He.Fa.ok K (.glo "law"),
  fun K => He.Fa.ok K (.glo "need_plan_bench"),
  fun K => He.Fa.ok K (.glo "need_tick"),
  fun K => He.Fa.ok K (.glo "plan_of"),
  fun K => He.Fa.ok K (.glo "read_sum"),
  fun K => He.Fa.ok K (.glo "read_tick"),
  fun K => He.Fa.ok K (.glo "sums_text"),
  fun K => He.Fa.ok K (.glo "upcoming"),
  fun K => He.Fa.ok K (.free "abs"),
  fun K => He.Fa.ok K (.free "all"),
  fun K => He.Fa.ok K (.free "any"),
  fun K => He.Fa.ok K (.free "bool"),
  fun K => He.Fa.ok K (.free "enumerate"),
  fun K => He.Fa.ok K (.free "int"),
  fun K => He.Fa.ok K (.free "isinstance"),
  fun K => He.Fa.ok K (.free "len"),
  fun K => He.Fa.ok K (.free "list"),
  fun K => He.Fa.ok K (.free "range"),
  fun K => He.Fa.ok K (.free "str"),
  fun K => He.Fa.ok K (.free "tuple"),
  fun K => He.Fa.ok K (.int "MOST_AGE" 8),
  fun K => He.Fa.ok K (.int "MOST_PHASES" 6),
  fun K => He.Fa.ok K (.int "MOST_SUMS" 6),
  fun K => He.Fa.ok K (.cls "Bench"),
  iscB "Bench",
  fun K => He.Fa.ok K (.cls "Plan"),
  iscB "Plan",
  fun K => He.Fa.ok K (.cls "Tick"),
  iscB "Tick",
  fun K => He.Fa.ok K (.noat "Bench" "own_now"),
  fun K => He.Fa.ok K (.noat "Bench" "past"),
  fun K => He.Fa.ok K (.noat "Plan" "own_ticks"),
  fun K => He.Fa.ok K (.noat "Tick" "mute"),
  fun K => He.Fa.ok K (.noat "Tick" "sums"),
  isfB,
  fun K => He.Fa.ok K (.meth "Bench" "__len__"),
  fun K => PySem.W.fnIn K (He.ma K (He.ga K "Bench") "__len__"),
  fun K => He.Fa.ok K (.meth "Tick" "__str__"),
  fun K => PySem.W.fnIn K (He.ma K (He.ga K "Tick") "__str__"),
  fun K => He.Fa.ok K (.meth "Plan" "__str__"),
  fun K => PySem.W.fnIn K (He.ma K (He.ga K "Plan") "__str__"),
  fun K => He.Fa.ok K (.meth "Bench" "undo"),
  fun K => PySem.W.fnIn K (He.ma K (He.ga K "Bench") "undo"),
  fun K => He.Fa.ok K (.meth "Bench" "done"),
  fun K => PySem.W.fnIn K (He.ma K (He.ga K "Bench") "done"),
  fun K => He.Fa.ok K (.meth "Plan" "__len__"),
  fun K => PySem.W.fnIn K (He.ma K (He.ga K "Plan") "__len__"),
  fun K => He.Fa.ok K (.meth "Bench" "add"),
  fun K => PySem.W.fnIn K (He.ma K (He.ga K "Bench") "add"),
  fun K => He.Fa.ok K (.meth "Bench" "need_phase"),
  fun K => PySem.W.fnIn K (He.ma K (He.ga K "Bench") "need_phase"),
  fun K => He.Fa.ok K (.meth "Bench" "drop"),
  fun K => PySem.W.fnIn K (He.ma K (He.ga K "Bench") "drop"),
  fun K => He.Fa.ok K (.meth "Plan" "__getitem__"),
  fun K => PySem.W.fnIn K (He.ma K (He.ga K "Plan") "__getitem__"),
  fun K => He.Fa.ok K (.meth "Plan" "with_phase"),
  fun K => PySem.W.fnIn K (He.ma K (He.ga K "Plan") "with_phase"),
  fun K => He.Fa.ok K (.meth "Tick" (PySem.dunder (Operator.Add).info.2)),
  fun K => PySem.W.fnIn K (He.ma K (He.ga K "Tick") (PySem.dunder (Operator.Add).info.2)),
  fun K => He.Fa.ok K (.meth "Bench" "put"),
  fun K => PySem.W.fnIn K (He.ma K (He.ga K "Bench") "put"),
  fun K => He.Fa.ok K (.meth "Bench" "replace"),
  fun K => PySem.W.fnIn K (He.ma K (He.ga K "Bench") "replace"),
  fun K => He.Fa.ok K (.meth "Tick" "__contains__"),
  fun K => PySem.W.fnIn K (He.ma K (He.ga K "Tick") "__contains__"),
  fun K => He.Fa.ok K (.meth "Tick" (PySem.dunder (Operator.Sub).info.2)),
  fun K => PySem.W.fnIn K (He.ma K (He.ga K "Tick") (PySem.dunder (Operator.Sub).info.2)),
  fun K => He.Fa.ok K (.meth "Bench" "take"),
  fun K => PySem.W.fnIn K (He.ma K (He.ga K "Bench") "take"),
  fun K => He.Fa.ok K (.meth "Plan" (PySem.dunder (Operator.RShift).info.2)),
  fun K => PySem.W.fnIn K (He.ma K (He.ga K "Plan") (PySem.dunder (Operator.RShift).info.2)),
  fun K => He.Fa.ok K (.meth "Bench" "turn"),
  fun K => PySem.W.fnIn K (He.ma K (He.ga K "Bench") "turn"),
  fun K => He.Fa.ok K (.meth "Bench" "__setitem__"),
  fun K => PySem.W.fnIn K (He.ma K (He.ga K "Bench") "__setitem__"),
  fun K => He.Fa.ok K (.meth "Tick" "__eq__"),
  fun K => PySem.W.fnIn K (He.ma K (He.ga K "Tick") "__eq__"),
  fun K => He.Fa.ok K (.meth "Plan" "__eq__"),
  fun K => PySem.W.fnIn K (He.ma K (He.ga K "Plan") "__eq__"),
  fun K => He.Fa.ok K (.meth "Plan" "__iter__"),
  fun K => He.Fa.ok K (.mkr "Bench"),
  fun K => He.Fa.ok K (.mkr "Plan"),
  fun K => He.Fa.ok K (.mkr "Tick"),
  propB "Bench" "now",
  cmB "Plan" "read",
  cmB "Tick" "read",
  excB "BadBench",
  excB "BadCount",
  excB "BadPlan",
  excB "BadText",
  excB "BadTick",
  excB "NoPhase",
  excB "Nothing",
  excB "TooMany",
  fun K => He.eqO (PySem.W.findIn K (.ref (He.ga K "BadBench")) "part") (some none),
  fun K => He.eqO (PySem.W.findIn K (.ref (He.ga K "BadCount")) "value") (some none),
  fun K => He.eqO (PySem.W.findIn K (.ref (He.ga K "BadPlan")) "part") (some none),
  fun K => He.eqO (PySem.W.findIn K (.ref (He.ga K "BadText")) "line") (some none),
  fun K => He.eqO (PySem.W.findIn K (.ref (He.ga K "BadText")) "word") (some none),
  fun K => He.eqO (PySem.W.findIn K (.ref (He.ga K "BadTick")) "part") (some none),
  fun K => He.eqO (PySem.W.findIn K (.ref (He.ga K "NoPhase")) "at") (some none),
  x0B "Nothing",
  fun K => He.eqO (PySem.W.findIn K (.ref (He.ga K "TooMany")) "what") (some none),
  fun K => He.eqO (PySem.W.findIn K (.ref (He.ga K "TooMany")) "most") (some none),
  fun K => He.Fa.ok K (.free "super"),
  isxB xcl_BadBench_NoPhase xtab_BadBench_NoPhase,
  isxB xcl_Nothing xtab_Nothing,
  catB "RepairError" xcat,
  tabUB,
  lamAtB "_law_back_right",
  lamAtB "_law_refused_right",
  lamB ["_law_back_right", "_law_refused_right", "law"],
  fun K => tabB K tab_Plan (.ref (He.ga K "Plan")),
  fun K => tabB K tab_Tick (.ref (He.ga K "Tick")),
  fun K => tabB K tab_bool (.type "bool"),
  fun K => tabB K tab_int (.type "int"),
  fun K => tabB K tab_str (.type "str"),
  fun K => tabB K tab_tuple (.type "tuple"),
  fun K => PySem.W.notFirst K (He.ga K "Plan") (.ref (He.ga K "Plan")),
  fun K => PySem.W.notFirst K (He.ga K "Tick") (.ref (He.ga K "Tick")),
  binB "Plan" "int" "int" .RShift,
  binB "Tick" "tuple" "tuple" .Add,
  binB "Tick" "tuple" "tuple" .Sub,
  fun K => PySem.W.noSeq K (He.ga K "Bench"),
  fun K => He.Fa.ok K (.free "iter")]
def fns : List Df := [
  ⟨fun K => (He.ga K "need_plan_bench"), "need_plan", "need_plan", defArgs s_need_plan, defBody s_need_plan, defScope s_need_plan, []⟩,
  ⟨fun K => (He.ma K (He.ga K "Bench") "__init__"), "__init__", "Bench.__init__", defArgs s_Bench___init__, defBody s_Bench___init__, defScope s_Bench___init__, []⟩,
  ⟨fun K => (He.ma K (He.ga K "Bench") "__len__"), "__len__", "Bench.__len__", defArgs s_Bench___len__, defBody s_Bench___len__, defScope s_Bench___len__, []⟩,
  ⟨fun K => (prA K "Bench" "now"), "now", "Bench.now", defArgs s_Bench_now, defBody s_Bench_now, defScope s_Bench_now, []⟩,
  ⟨fun K => (He.ga K "sums_text"), "sums_text", "sums_text", defArgs s_sums_text, defBody s_sums_text, defScope s_sums_text, []⟩,
  ⟨fun K => (He.ma K (He.ga K "Tick") "__str__"), "__str__", "Tick.__str__", defArgs s_Tick___str__, defBody s_Tick___str__, defScope s_Tick___str__, []⟩,
  ⟨fun K => (He.ma K (He.ga K "Plan") "__str__"), "__str__", "Plan.__str__", defArgs s_Plan___str__, defBody s_Plan___str__, defScope s_Plan___str__, []⟩,
  ⟨fun K => (He.ma K (He.ga K "Plan") "__init__"), "__init__", "Plan.__init__", defArgs s_Plan___init__, defBody s_Plan___init__, defScope s_Plan___init__, []⟩,
  ⟨fun K => (He.ga K "is_integer"), "is_integer", "is_integer", defArgs s_is_integer, defBody s_is_integer, defScope s_is_integer, []⟩,
  ⟨fun K => (He.ga K "is_within"), "is_within", "is_within", defArgs s_is_within, defBody s_is_within, defScope s_is_within, []⟩,
  ⟨fun K => (He.ga K "is_age"), "is_age", "is_age", defArgs s_is_age, defBody s_is_age, defScope s_is_age, []⟩,
  ⟨fun K => (He.ga K "is_sum"), "is_sum", "is_sum", defArgs s_is_sum, defBody s_is_sum, defScope s_is_sum, []⟩,
  ⟨fun K => (He.ma K (He.ga K "Tick") "__init__"), "__init__", "Tick.__init__", defArgs s_Tick___init__, defBody s_Tick___init__, defScope s_Tick___init__, [("mute", .bl false)]⟩,
  ⟨fun K => (He.ga K "upcoming"), "upcoming", "upcoming", defArgs s_upcoming, defBody s_upcoming, defScope s_upcoming, []⟩,
  ⟨fun K => (He.ga K "read_sum"), "read_sum", "read_sum", defArgs s_read_sum, defBody s_read_sum, defScope s_read_sum, []⟩,
  ⟨fun K => (He.ga K "read_tick"), "read_tick", "read_tick", defArgs s_read_tick, defBody s_read_tick, defScope s_read_tick, []⟩,
  ⟨fun K => (cmA K "Plan" "read"), "read", "Plan.read", defArgs s_Plan_read, defBody s_Plan_read, defScope s_Plan_read, []⟩,
  ⟨fun K => (He.ma K (He.ga K "Bench") "undo"), "undo", "Bench.undo", defArgs s_Bench_undo, defBody s_Bench_undo, defScope s_Bench_undo, []⟩,
  ⟨fun K => (He.ga K "_law_heard"), "_law_heard", "_law_heard", defArgs s__law_heard, defBody s__law_heard, defScope s__law_heard, []⟩,
  ⟨fun K => (He.ga K "_law_tick_text"), "_law_tick_text", "_law_tick_text", defArgs s__law_tick_text, defBody s__law_tick_text, defScope s__law_tick_text, []⟩,
  ⟨fun K => (He.ga K "_law_plan_text"), "_law_plan_text", "_law_plan_text", defArgs s__law_plan_text, defBody s__law_plan_text, defScope s__law_plan_text, []⟩,
  ⟨fun K => (He.ga K "_law_back_right"), "_law_back_right", "_law_back_right", defArgs s__law_back_right, defBody s__law_back_right, defScope s__law_back_right, []⟩,
  ⟨fun K => (He.ma K (He.ga K "Bench") "done"), "done", "Bench.done", defArgs s_Bench_done, defBody s_Bench_done, defScope s_Bench_done, []⟩,
  ⟨fun K => (He.ma K (He.ga K "Plan") "__len__"), "__len__", "Plan.__len__", defArgs s_Plan___len__, defBody s_Plan___len__, defScope s_Plan___len__, []⟩,
  ⟨fun K => (He.ga K "need_tick"), "need_tick", "need_tick", defArgs s_need_tick, defBody s_need_tick, defScope s_need_tick, []⟩,
  ⟨fun K => (He.ga K "plan_of"), "plan_of", "plan_of", defArgs s_plan_of, defBody s_plan_of, defScope s_plan_of, []⟩,
  ⟨fun K => (He.ma K (He.ga K "Bench") "add"), "add", "Bench.add", defArgs s_Bench_add, defBody s_Bench_add, defScope s_Bench_add, []⟩,
  ⟨fun K => (He.ma K (He.ga K "Bench") "need_phase"), "need_phase", "Bench.need_phase", defArgs s_Bench_need_phase, defBody s_Bench_need_phase, defScope s_Bench_need_phase, []⟩,
  ⟨fun K => (He.ma K (He.ga K "Bench") "drop"), "drop", "Bench.drop", defArgs s_Bench_drop, defBody s_Bench_drop, defScope s_Bench_drop, []⟩,
  ⟨fun K => (cmA K "Tick" "read"), "read", "Tick.read", defArgs s_Tick_read, defBody s_Tick_read, defScope s_Tick_read, []⟩,
  ⟨fun K => (He.ga K "_law_draw"), "_law_draw", "_law_draw", defArgs s__law_draw, defBody s__law_draw, defScope s__law_draw, []⟩,
  ⟨fun K => (He.ma K (He.ga K "Plan") "__getitem__"), "__getitem__", "Plan.__getitem__", defArgs s_Plan___getitem__, defBody s_Plan___getitem__, defScope s_Plan___getitem__, []⟩,
  ⟨fun K => (He.ma K (He.ga K "Plan") "with_phase"), "with_phase", "Plan.with_phase", defArgs s_Plan_with_phase, defBody s_Plan_with_phase, defScope s_Plan_with_phase, []⟩,
  ⟨fun K => (He.ma K (He.ga K "Tick") (PySem.dunder (Operator.Add).info.2)), "__add__", "Tick.__add__", defArgs s_Tick___add__, defBody s_Tick___add__, defScope s_Tick___add__, []⟩,
  ⟨fun K => (He.ma K (He.ga K "Bench") "put"), "put", "Bench.put", defArgs s_Bench_put, defBody s_Bench_put, defScope s_Bench_put, []⟩,
  ⟨fun K => (He.ma K (He.ga K "Bench") "replace"), "replace", "Bench.replace", defArgs s_Bench_replace, defBody s_Bench_replace, defScope s_Bench_replace, []⟩,
  ⟨fun K => (He.ma K (He.ga K "Tick") "__contains__"), "__contains__", "Tick.__contains__", defArgs s_Tick___contains__, defBody s_Tick___contains__, defScope s_Tick___contains__, []⟩,
  ⟨fun K => (He.ma K (He.ga K "Tick") (PySem.dunder (Operator.Sub).info.2)), "__sub__", "Tick.__sub__", defArgs s_Tick___sub__, defBody s_Tick___sub__, defScope s_Tick___sub__, []⟩,
  ⟨fun K => (He.ma K (He.ga K "Bench") "take"), "take", "Bench.take", defArgs s_Bench_take, defBody s_Bench_take, defScope s_Bench_take, []⟩,
  ⟨fun K => (He.ma K (He.ga K "Plan") (PySem.dunder (Operator.RShift).info.2)), "__rshift__", "Plan.__rshift__", defArgs s_Plan___rshift__, defBody s_Plan___rshift__, defScope s_Plan___rshift__, []⟩,
  ⟨fun K => (He.ma K (He.ga K "Bench") "turn"), "turn", "Bench.turn", defArgs s_Bench_turn, defBody s_Bench_turn, defScope s_Bench_turn, []⟩,
  ⟨fun K => (He.ga K "_law_pick"), "_law_pick", "_law_pick", defArgs s__law_pick, defBody s__law_pick, defScope s__law_pick, []⟩,
  ⟨fun K => (He.ga K "_law_sum"), "_law_sum", "_law_sum", defArgs s__law_sum, defBody s__law_sum, defScope s__law_sum, []⟩,
  ⟨fun K => (He.ga K "_law_tick"), "_law_tick", "_law_tick", defArgs s__law_tick, defBody s__law_tick, defScope s__law_tick, []⟩,
  ⟨fun K => (He.ga K "_law_edited"), "_law_edited", "_law_edited", defArgs s__law_edited, defBody s__law_edited, defScope s__law_edited, []⟩,
  ⟨fun K => (He.ma K (He.ga K "Bench") "__setitem__"), "__setitem__", "Bench.__setitem__", defArgs s_Bench___setitem__, defBody s_Bench___setitem__, defScope s_Bench___setitem__, []⟩,
  ⟨fun K => (He.ga K "_law_set"), "_law_set", "_law_set", defArgs s__law_set, defBody s__law_set, defScope s__law_set, []⟩,
  ⟨fun K => (He.ga K "_law_deed"), "_law_deed", "_law_deed", defArgs s__law_deed, defBody s__law_deed, defScope s__law_deed, []⟩,
  ⟨fun K => (He.ga K "_law_pen"), "_law_pen", "_law_pen", defArgs s__law_pen, defBody s__law_pen, defScope s__law_pen, []⟩,
  ⟨fun K => (He.ma K (He.ga K "Tick") "__eq__"), "__eq__", "Tick.__eq__", defArgs s_Tick___eq__, defBody s_Tick___eq__, defScope s_Tick___eq__, []⟩,
  ⟨fun K => (He.ma K (He.ga K "Plan") "__eq__"), "__eq__", "Plan.__eq__", defArgs s_Plan___eq__, defBody s_Plan___eq__, defScope s_Plan___eq__, []⟩,
  ⟨fun K => (He.ga K "_law_refused_right"), "_law_refused_right", "_law_refused_right", defArgs s__law_refused_right, defBody s__law_refused_right, defScope s__law_refused_right, []⟩,
  ⟨fun K => (He.ga K "law"), "law", "law", defArgs s_law, defBody s_law, defScope s_law, []⟩,
  ⟨fun K => (He.ma K (He.ga K "Plan") "__iter__"), "__iter__", "Plan.__iter__", defArgs s_Plan___iter__, defBody s_Plan___iter__, defScope s_Plan___iter__, []⟩]
abbrev Rw : PySem.W.OpenRow := PySem.W.OpenLaw.row PySem.Challenge.rw_laterepair_k81_whole_benches_led_back
def xfs : List Xf := [xd_BadBench, xd_BadCount, xd_BadPlan, xd_BadText, xd_BadTick, xd_NoPhase, xd_TooMany]
abbrev hk : PySem.W.Hook := hookX 5 "/claim/cut.py" exs fns xfs
def ob (s : PySem.W.SharedT) : He.AlD := obsRX 5 "/claim/cut.py" exs fns xfs (HandSHeadRun.getT s)
theorem ob_eq (s : PySem.W.SharedT) : ob s = hk.obs s.abs := obsRX_eq (HandSHeadRun.getT_eq s)
def l0 : List PySem.Str := ["_wall", "MOST_AGE", "is_integer", "is_within", "is_age", "RepairError", "BadTick", "BadPlan", "BadCount", "BadBench", "BadText", "NoPhase", "Nothing", "TooMany", "MOST_SUMS", "MOST_PHASES", "is_sum", "Tick", "sums_text", "upcoming", "read_tick", "read_sum", "common_multiple", "Plan", "need_plan", "need_plan_plans", "joined", "need_plan_bench", "need_tick", "plan_of"]
def l1 : List PySem.Str := ["Bench", "_law_pen", "_law_draw", "_law_pick", "_law_sum", "_law_tick", "_law_tick_text", "_law_plan_text", "_law_set", "_law_edited", "_law_deed", "_law_heard"]
theorem run (w : World) : HandSHeadRun.RunEq Rw (PySem.W.view Rw.prog [48, 49, 50]) hk ob 30000 (l0 ++ l1) w := by
  intro os
  kernel_rfl
theorem fx_of {P : Program} {w : World} {K : PySem.W.Frag} {h : Heap} {mg : Str → Option Value} (hP : P.main.file = "/claim/cut.py") (htop : (P.main.scope.names.lookup ("super" : Str)).isSome = false) (X : K.In h) (G : h.Ns mainGlobals mg) (c : SaysX "/claim/cut.py" exs fns xfs K) : Fx P w K mg where
  glo_BadBench := He.glo_ok X G (c.fact 0 rfl)
  glo_BadCount := He.glo_ok X G (c.fact 1 rfl)
  glo_BadPlan := He.glo_ok X G (c.fact 2 rfl)
  glo_BadText := He.glo_ok X G (c.fact 3 rfl)
  glo_BadTick := He.glo_ok X G (c.fact 4 rfl)
  glo_Bench := He.glo_ok X G (c.fact 5 rfl)
  glo_NoPhase := He.glo_ok X G (c.fact 6 rfl)
  glo_Nothing := He.glo_ok X G (c.fact 7 rfl)
  glo_Plan := He.glo_ok X G (c.fact 8 rfl)
  glo_RepairError := He.glo_ok X G (c.fact 9 rfl)
  glo_Tick := He.glo_ok X G (c.fact 10 rfl)
  glo_TooMany := He.glo_ok X G (c.fact 11 rfl)
  glo__law_back_right := He.glo_ok X G (c.fact 12 rfl)
  glo__law_deed := He.glo_ok X G (c.fact 13 rfl)
  glo__law_draw := He.glo_ok X G (c.fact 14 rfl)
  glo__law_edited := He.glo_ok X G (c.fact 15 rfl)
  glo__law_heard := He.glo_ok X G (c.fact 16 rfl)
  glo__law_pen := He.glo_ok X G (c.fact 17 rfl)
  glo__law_pick := He.glo_ok X G (c.fact 18 rfl)
  glo__law_plan_text := He.glo_ok X G (c.fact 19 rfl)
  glo__law_refused_right := He.glo_ok X G (c.fact 20 rfl)
  glo__law_set := He.glo_ok X G (c.fact 21 rfl)
  glo__law_sum := He.glo_ok X G (c.fact 22 rfl)
  glo__law_tick := He.glo_ok X G (c.fact 23 rfl)
  glo__law_tick_text := He.glo_ok X G (c.fact 24 rfl)
  glo_is_age := He.glo_ok X G (c.fact 25 rfl)
  glo_is_integer := He.glo_ok X G (c.fact 26 rfl)
  glo_is_sum := He.glo_ok X G (c.fact 27 rfl)
  glo_is_within := He.glo_ok X G (c.fact 28 rfl)
  glo_law := He.glo_ok X G (c.fact 29 rfl)
  glo_need_plan_bench := He.glo_ok X G (c.fact 30 rfl)
  glo_need_tick := He.glo_ok X G (c.fact 31 rfl)
  glo_plan_of := He.glo_ok X G (c.fact 32 rfl)
  glo_read_sum := He.glo_ok X G (c.fact 33 rfl)
  glo_read_tick := He.glo_ok X G (c.fact 34 rfl)
  glo_sums_text := He.glo_ok X G (c.fact 35 rfl)
  glo_upcoming := He.glo_ok X G (c.fact 36 rfl)
  free_abs := He.free_ok X G (c.fact 37 rfl)
  free_all := He.free_ok X G (c.fact 38 rfl)
  free_any := He.free_ok X G (c.fact 39 rfl)
  free_bool := He.free_ok X G (c.fact 40 rfl)
  free_enumerate := He.free_ok X G (c.fact 41 rfl)
  free_int := He.free_ok X G (c.fact 42 rfl)
  free_isinstance := He.free_ok X G (c.fact 43 rfl)
  free_len := He.free_ok X G (c.fact 44 rfl)
  free_list := He.free_ok X G (c.fact 45 rfl)
  free_range := He.free_ok X G (c.fact 46 rfl)
  free_str := He.free_ok X G (c.fact 47 rfl)
  free_tuple := He.free_ok X G (c.fact 48 rfl)
  int_MOST_AGE := He.int_ok X G (c.fact 49 rfl)
  int_MOST_PHASES := He.int_ok X G (c.fact 50 rfl)
  int_MOST_SUMS := He.int_ok X G (c.fact 51 rfl)
  cls_Bench := He.cls_ok (c.fact 52 rfl)
  isc_Bench := isc_of (c.fact 53 rfl)
  cls_Plan := He.cls_ok (c.fact 54 rfl)
  isc_Plan := isc_of (c.fact 55 rfl)
  cls_Tick := He.cls_ok (c.fact 56 rfl)
  isc_Tick := isc_of (c.fact 57 rfl)
  noat_Bench_own_now := He.noat_ok (c.fact 58 rfl)
  noat_Bench_past := He.noat_ok (c.fact 59 rfl)
  noat_Plan_own_ticks := He.noat_ok (c.fact 60 rfl)
  noat_Tick_mute := He.noat_ok (c.fact 61 rfl)
  noat_Tick_sums := He.noat_ok (c.fact 62 rfl)
  isf := isf_of (c.fact 63 rfl)
  me_Bench___len__ := He.meth_ok (c.fact 64 rfl)
  fi_Bench___len__ := c.fact 65 rfl
  me_Tick___str__ := He.meth_ok (c.fact 66 rfl)
  fi_Tick___str__ := c.fact 67 rfl
  me_Plan___str__ := He.meth_ok (c.fact 68 rfl)
  fi_Plan___str__ := c.fact 69 rfl
  me_Bench_undo := He.meth_ok (c.fact 70 rfl)
  fi_Bench_undo := c.fact 71 rfl
  me_Bench_done := He.meth_ok (c.fact 72 rfl)
  fi_Bench_done := c.fact 73 rfl
  me_Plan___len__ := He.meth_ok (c.fact 74 rfl)
  fi_Plan___len__ := c.fact 75 rfl
  me_Bench_add := He.meth_ok (c.fact 76 rfl)
  fi_Bench_add := c.fact 77 rfl
  me_Bench_need_phase := He.meth_ok (c.fact 78 rfl)
  fi_Bench_need_phase := c.fact 79 rfl
  me_Bench_drop := He.meth_ok (c.fact 80 rfl)
  fi_Bench_drop := c.fact 81 rfl
  me_Plan___getitem__ := He.meth_ok (c.fact 82 rfl)
  fi_Plan___getitem__ := c.fact 83 rfl
  me_Plan_with_phase := He.meth_ok (c.fact 84 rfl)
  fi_Plan_with_phase := c.fact 85 rfl
  me_Tick___add__ := He.meth_ok (c.fact 86 rfl)
  fi_Tick___add__ := c.fact 87 rfl
  me_Bench_put := He.meth_ok (c.fact 88 rfl)
  fi_Bench_put := c.fact 89 rfl
  me_Bench_replace := He.meth_ok (c.fact 90 rfl)
  fi_Bench_replace := c.fact 91 rfl
  me_Tick___contains__ := He.meth_ok (c.fact 92 rfl)
  fi_Tick___contains__ := c.fact 93 rfl
  me_Tick___sub__ := He.meth_ok (c.fact 94 rfl)
  fi_Tick___sub__ := c.fact 95 rfl
  me_Bench_take := He.meth_ok (c.fact 96 rfl)
  fi_Bench_take := c.fact 97 rfl
  me_Plan___rshift__ := He.meth_ok (c.fact 98 rfl)
  fi_Plan___rshift__ := c.fact 99 rfl
  me_Bench_turn := He.meth_ok (c.fact 100 rfl)
  fi_Bench_turn := c.fact 101 rfl
  me_Bench___setitem__ := He.meth_ok (c.fact 102 rfl)
  fi_Bench___setitem__ := c.fact 103 rfl
  me_Tick___eq__ := He.meth_ok (c.fact 104 rfl)
  fi_Tick___eq__ := c.fact 105 rfl
  me_Plan___eq__ := He.meth_ok (c.fact 106 rfl)
  fi_Plan___eq__ := c.fact 107 rfl
  me_Plan___iter__ := He.meth_ok (c.fact 108 rfl)
  mk_Bench := He.mkr_ok (c.fact 109 rfl)
  mk_Plan := He.mkr_ok (c.fact 110 rfl)
  mk_Tick := He.mkr_ok (c.fact 111 rfl)
  prop_Bench_now := prop_of (c.fact 112 rfl)
  cm_Plan_read := cm_of (c.fact 113 rfl)
  cm_Tick_read := cm_of (c.fact 114 rfl)
  exc_BadBench := exc_of (c.fact 115 rfl)
  exc_BadCount := exc_of (c.fact 116 rfl)
  exc_BadPlan := exc_of (c.fact 117 rfl)
  exc_BadText := exc_of (c.fact 118 rfl)
  exc_BadTick := exc_of (c.fact 119 rfl)
  exc_NoPhase := exc_of (c.fact 120 rfl)
  exc_Nothing := exc_of (c.fact 121 rfl)
  exc_TooMany := exc_of (c.fact 122 rfl)
  xno_BadBench_part := He.eqO_ok (c.fact 123 rfl)
  xno_BadCount_value := He.eqO_ok (c.fact 124 rfl)
  xno_BadPlan_part := He.eqO_ok (c.fact 125 rfl)
  xno_BadText_line := He.eqO_ok (c.fact 126 rfl)
  xno_BadText_word := He.eqO_ok (c.fact 127 rfl)
  xno_BadTick_part := He.eqO_ok (c.fact 128 rfl)
  xno_NoPhase_at := He.eqO_ok (c.fact 129 rfl)
  x0_Nothing := c.fact 130 rfl
  xno_TooMany_what := He.eqO_ok (c.fact 131 rfl)
  xno_TooMany_most := He.eqO_ok (c.fact 132 rfl)
  free_super := He.free_ok X G (c.fact 133 rfl)
  isxb_BadBench_NoPhase := c.fact 134 rfl
  isxb_Nothing := c.fact 135 rfl
  cat := c.fact 136 rfl
  tabU := c.fact 137 rfl
  lam__law_back_right := c.fact 138 rfl
  lam__law_refused_right := c.fact 139 rfl
  lamb := c.fact 140 rfl
  tab_Plan := c.fact 141 rfl
  tab_Tick := c.fact 142 rfl
  tab_bool := c.fact 143 rfl
  tab_int := c.fact 144 rfl
  tab_str := c.fact 145 rfl
  tab_tuple := c.fact 146 rfl
  nf_Plan_Plan := c.fact 147 rfl
  nf_Tick_Tick := c.fact 148 rfl
  bin_Plan_RShift := bin_of (T := "int") (c.fact 149 rfl)
  bin_Tick_Add := bin_of (T := "tuple") (c.fact 150 rfl)
  bin_Tick_Sub := bin_of (T := "tuple") (c.fact 151 rfl)
  noseq_Bench := c.fact 152 rfl
  free_iter := He.free_ok X G (c.fact 153 rfl)
  d_need_plan := c.def_ 0 rfl
  d_Bench___init__ := c.def_ 1 rfl
  d_Bench___len__ := c.def_ 2 rfl
  d_Bench_now := c.def_ 3 rfl
  d_sums_text := c.def_ 4 rfl
  d_Tick___str__ := c.def_ 5 rfl
  d_Plan___str__ := c.def_ 6 rfl
  d_Plan___init__ := c.def_ 7 rfl
  d_is_integer := c.def_ 8 rfl
  d_is_within := c.def_ 9 rfl
  d_is_age := c.def_ 10 rfl
  d_is_sum := c.def_ 11 rfl
  d_Tick___init__ := c.def_ 12 rfl
  d_upcoming := c.def_ 13 rfl
  d_read_sum := c.def_ 14 rfl
  d_read_tick := c.def_ 15 rfl
  d_Plan_read := c.def_ 16 rfl
  d_Bench_undo := c.def_ 17 rfl
  d__law_heard := c.def_ 18 rfl
  d__law_tick_text := c.def_ 19 rfl
  d__law_plan_text := c.def_ 20 rfl
  d__law_back_right := c.def_ 21 rfl
  d_Bench_done := c.def_ 22 rfl
  d_Plan___len__ := c.def_ 23 rfl
  d_need_tick := c.def_ 24 rfl
  d_plan_of := c.def_ 25 rfl
  d_Bench_add := c.def_ 26 rfl
  d_Bench_need_phase := c.def_ 27 rfl
  d_Bench_drop := c.def_ 28 rfl
  d_Tick_read := c.def_ 29 rfl
  d__law_draw := c.def_ 30 rfl
  d_Plan___getitem__ := c.def_ 31 rfl
  d_Plan_with_phase := c.def_ 32 rfl
  d_Tick___add__ := c.def_ 33 rfl
  d_Bench_put := c.def_ 34 rfl
  d_Bench_replace := c.def_ 35 rfl
  d_Tick___contains__ := c.def_ 36 rfl
  d_Tick___sub__ := c.def_ 37 rfl
  d_Bench_take := c.def_ 38 rfl
  d_Plan___rshift__ := c.def_ 39 rfl
  d_Bench_turn := c.def_ 40 rfl
  d__law_pick := c.def_ 41 rfl
  d__law_sum := c.def_ 42 rfl
  d__law_tick := c.def_ 43 rfl
  d__law_edited := c.def_ 44 rfl
  d_Bench___setitem__ := c.def_ 45 rfl
  d__law_set := c.def_ 46 rfl
  d__law_deed := c.def_ 47 rfl
  d__law_pen := c.def_ 48 rfl
  d_Tick___eq__ := c.def_ 49 rfl
  d_Plan___eq__ := c.def_ 50 rfl
  d__law_refused_right := c.def_ 51 rfl
  d_law := c.def_ 52 rfl
  d_Plan___iter__ := c.def_ 53 rfl
  xf_BadBench := c.xf hP htop 0 rfl
  xf_BadCount := c.xf hP htop 1 rfl
  xf_BadPlan := c.xf hP htop 2 rfl
  xf_BadText := c.xf hP htop 3 rfl
  xf_BadTick := c.xf hP htop 4 rfl
  xf_NoPhase := c.xf hP htop 5 rfl
  xf_TooMany := c.xf hP htop 6 rfl
end K81
set_option Elab.async false
set_option linter.all false
set_option maxRecDepth 100000
set_option maxHeartbeats 4000000
namespace K81
open RL PySem L2
/-- the pen's cell -/
def pen (S : List Int) (i g : Int) : Ce := .lst [.lst (S.map .int), .int i, .int g]
theorem at1 {α : Type} {a b : α} {l : List α} : atI (a :: b :: l) 1 = some b := by
  have : (1 : Int) < (l.length : Int) + 1 + 1 := by omega
  simp [atI, ixN, this]
theorem at0 {α : Type} {a : α} {l : List α} : atI (a :: l) 0 = some a := by simp [atI, ixN]
theorem at2 {α : Type} {a b c : α} {l : List α} : atI (a :: b :: c :: l) 2 = some c := by
  have : (2 : Int) < (l.length : Int) + 1 + 1 + 1 := by omega
  simp [atI, ixN, this]
theorem ix32 : ixN 3 2 = some 2 := rfl
theorem ix31 : ixN 3 1 = some 1 := rfl
theorem set_at {ws : List Ce} {p : Nat} {c d : Ce} (h : ws[p]? = some c) : (ws.set p d)[p]? = some d := by
  have : p < ws.length := (List.getElem?_eq_some_iff.mp h).1
  rw [List.getElem?_set_self this]
theorem mulL {a b : Int} (h1 : -18446744073709551616 < a) (h2 : a < 18446744073709551616) : cMul a b = true := by
  simp only [cMul, Bool.or_eq_true, Bool.and_eq_true, decide_eq_true_eq]
  left
  constructor <;> omega
theorem fPow_ok {ws : List Ce} {a b : Int} {k : Nat} (hb : b = (k : Nat)) (h1 : a.natAbs < 18446744073709551616) (h2 : k ≤ 1000000) : fPow ws (.int a) (.int b) = some (.int (a ^ k)) := by
  subst hb
  have q1 : (0 : Int) ≤ (k : Int) := by omega
  have q2 : (k : Int) ≤ 1000000 := by omega
  simp [fPow, fI, q1, q2, h1]
theorem fMul_ok {ws : List Ce} {a b : Int} (h : cMul a b = true) : fMul ws (.int a) (.int b) = some (.int (a * b)) := by
  simp [fMul, fI, h]
theorem draw {S : List Int} {p : Nat} {i g n : Int} {ws : List Ce} (hp : ws[p]? = some (pen S i g)) (hn : 0 < n) (hn2 : n < 1000) (hi : 0 ≤ i) (hi2 : i < 100000) (hg : 0 ≤ g) (hS : S.length ≤ 63) :
    ∃ d j h, m__law_draw [.cell p, .int n] ws = .ok (.int d) (ws.set p (pen S j h)) ∧ 0 ≤ d ∧ d < n ∧ 0 ≤ h ∧ i ≤ j ∧ j ≤ i + 1 := by
  have hp' : p < ws.length := (List.getElem?_eq_some_iff.mp hp).1
  by_cases h1 : 0 < g
  · refine ⟨g % n, i, g / n, ?_, Int.emod_nonneg _ (by omega), Int.emod_lt_of_pos _ hn, Int.ediv_nonneg hg (by omega), by omega, by omega⟩
    have hn3 : n < 1073741824 := by omega
    simp only [m__law_draw, g__law_draw, N__law_draw, bodyM, startD, sSeq, sIfS, sB, sNot, sNotV, sAnd, sAndT, sOrT, sOp, sVar, sC, sRet, sExpr, sSet, sAsg, sPar, sAug, sCons, sNil, sTup, sLst, sCall, sCB, fb1, ↓RL.bind_m, R.ofO_some, R.ofO_none, R.ofO, List.map_cons, List.map_nil, List.length_cons, List.length_nil, List.cons_append, List.nil_append, List.append_nil, List.replicate, List.set_cons_zero, List.set_cons_succ, List.getElem?_cons_zero, List.getElem?_cons_succ, Option.bind_some, Option.map_some, Option.bind_none, Option.map_none, if_true, if_false, Bool.false_eq_true, decide_true, decide_false, Nat.reduceAdd, Nat.reduceSub, Bool.not_true, Bool.not_false, sIf, sYes, sNext, sBad, tgName, tgTup, tgCons, tgNil, tupOf, seqOf, lstOf, ↓reduceIte, Nat.zero_le, Nat.reduceLeDiff, fIx, hp, pen, at2, fGt, fI, h1, decide_true, gInt, fMod, hn, fFdiv, hn3, Bool.and_self, tgItem, ix32]
    rw [fin_rtL (by simp)]
  · obtain ⟨c, hc⟩ : ∃ c : Int, (S = [] ∧ c = 88167 * i + 5473) ∨ (S ≠ [] ∧ atI (S.map D.int) (i % (S.length : Int)) = some (.int c)) := by
      by_cases e : S = []
      · exact ⟨_, .inl ⟨e, rfl⟩⟩
      · have h2 : 0 < S.length := List.length_pos_iff.mpr e
        have h3 := Int.emod_nonneg i (b := (S.length : Int)) (by omega)
        have h4 := Int.emod_lt_of_pos i (b := (S.length : Int)) (by omega)
        refine ⟨S[(i % (S.length : Int)).toNat]'(by omega), .inr ⟨e, ?_⟩⟩
        simp [atI, ixN, h3, h4]
    have hw : (ws.set p (pen S (i + 1) g))[p]? = some (pen S (i + 1) g) := set_at hp
    generalize hws : ws.set p (pen S (i + 1) g) = ws1 at hw
    have hm1 : cMul 88167 i = true := mulL (by omega) (by omega)
    have hm2 : cMul 83655 i = true := mulL (by omega) (by omega)
    have hm3 : cMul 2 i = true := mulL (by omega) (by omega)
    have hm4 : cMul 55439 i = true := mulL (by omega) (by omega)
    have hm5 : cMul (55439 * i) i = true := mulL (by omega) (by omega)
    have hb1 : (c % 2147483629 + 83655 * i + 649).natAbs < 18446744073709551616 := by omega
    have k1 : ∀ ws : List Ce, fPow ws (.int (c % 2147483629 + 83655 * i + 649)) (.int 5) = some (.int ((c % 2147483629 + 83655 * i + 649) ^ 5)) := fun ws => fPow_ok (k := 5) rfl hb1 (by omega)
    obtain ⟨y, hy⟩ : ∃ y, y = ((c % 2147483629 + 83655 * i + 649) ^ 5) % 2147483563 := ⟨_, rfl⟩
    have hy1 : 0 ≤ y := by rw [hy]; exact Int.emod_nonneg _ (by omega)
    have hy2 : y < 2147483563 := by rw [hy]; exact Int.emod_lt_of_pos _ (by omega)
    have hm6 : cMul y (2 * i + 399) = true := mulL (by omega) (by omega)
    have hb2 : (y * (2 * i + 399) + 55439 * i * i + 841).natAbs < 18446744073709551616 := by
      have q1 : 0 ≤ y * (2 * i + 399) := Int.mul_nonneg hy1 (by omega)
      have q2 : y * (2 * i + 399) ≤ 2147483563 * 200399 := Int.mul_le_mul (by omega) (by omega) (by omega) (by omega)
      have q3 : 0 ≤ 55439 * i * i := Int.mul_nonneg (by omega) hi
      have q4 : 55439 * i * i ≤ 5543900000 * 100000 := Int.mul_le_mul (by omega) (by omega) (by omega) (by omega)
      omega
    have k2 : ∀ ws : List Ce, fPow ws (.int (y * (2 * i + 399) + 55439 * i * i + 841)) (.int 3) = some (.int ((y * (2 * i + 399) + 55439 * i * i + 841) ^ 3)) := fun ws => fPow_ok (k := 3) rfl hb2 (by omega)
    have hmix : ∀ z : Int, 0 ≤ z % 2147483497 / 32 % n ∧ z % 2147483497 / 32 % n < n := fun z => ⟨Int.emod_nonneg _ (by omega), Int.emod_lt_of_pos _ hn⟩
    rcases hc with ⟨rfl, rfl⟩ | ⟨hne, hat⟩
    · refine ⟨(y * (2 * i + 399) + 55439 * i * i + 841) ^ 3 % 2147483497 / 32 % n, i + 1, g, ?_, (hmix _).1, (hmix _).2, hg, by omega, by omega⟩
      have hlen : ¬ i < ((0 : Nat) : Int) := by omega
      have q32 : (0 : Int) < 32 := by omega
      have r32 : (32 : Int) < 1073741824 := by omega
      have r1 : (0 : Int) < 2147483629 := by omega
      have r2 : (0 : Int) < 2147483563 := by omega
      have r3 : (0 : Int) < 2147483497 := by omega
      have hh := hws
      have hh2 := hw
      have hne0 := ne_nil_ints (ws := ws1) []
      simp only [pen, List.map_nil] at hh hh2 hne0
      simp only [m__law_draw, g__law_draw, N__law_draw, bodyM, startD, sSeq, sIfS, sB, sNot, sNotV, sAnd, sAndT, sOrT, sOp, sVar, sC, sRet, sExpr, sSet, sAsg, sPar, sAug, sCons, sNil, sTup, sLst, sCall, sCB, fb1, ↓RL.bind_m, R.ofO_some, R.ofO_none, R.ofO, List.map_cons, List.map_nil, List.length_cons, List.length_nil, List.cons_append, List.nil_append, List.append_nil, List.replicate, List.set_cons_zero, List.set_cons_succ, List.getElem?_cons_zero, List.getElem?_cons_succ, Option.bind_some, Option.map_some, Option.bind_none, Option.map_none, if_true, if_false, Bool.false_eq_true, decide_true, decide_false, Nat.reduceAdd, Nat.reduceSub, Bool.not_true, Bool.not_false, sIf, sYes, sNext, sBad, tgName, tgTup, tgCons, tgNil, tupOf, seqOf, lstOf, ↓reduceIte, Nat.zero_le, Nat.reduceLeDiff, fIx, hp, pen, at0, at1, at2, fGt, fI, h1, gInt, fMod, fFdiv, tgItem, ix32, ix31, fAdd, hm1, fMul_ok, hh, hh2, hne0, fLt, hlen, gLen, hm2, k1, r1, r2, r3, ← hy, hm3, hm6, hm4, hm5, k2, q32, r32, hn, Bool.and_self]
      rw [fin_rtL (by rw [← hws]; simp)]
      try simp only [← hws, pen, List.map_nil]
    · have hh := hws
      have hh2 := hw
      have hne0 := ne_nil_ints (ws := ws1) S
      have hlp : (0 : Int) < (S.length : Int) := by
        have := List.length_pos_iff.mpr hne
        omega
      have q32 : (0 : Int) < 32 := by omega
      have r32 : (32 : Int) < 1073741824 := by omega
      have r1 : (0 : Int) < 2147483629 := by omega
      have r2 : (0 : Int) < 2147483563 := by omega
      have r3 : (0 : Int) < 2147483497 := by omega
      have p18 : ∀ ws : List Ce, fPow ws (.int 10) (.int 18) = some (.int 1000000000000000000) := fun ws => fPow_ok (k := 18) rfl (by omega) (by omega)
      simp only [pen] at hh hh2 hne0
      by_cases hbig : i < (S.length : Int) ∧ 1000000000000000000 ≤ (if c < 0 then -c else c)
      · obtain ⟨b1, b2⟩ := hbig
        have hm7 : cMul 2 ((if c < 0 then -c else c) - 1000000000000000000) = true := mulL (by omega) (by omega)
        have hn3 : n < 1073741824 := by omega
        obtain ⟨v, hv⟩ : ∃ v : Int, v = 2 * ((if c < 0 then -c else c) - 1000000000000000000) + (if decide (c < 0) = true then 1 else 0) := ⟨_, rfl⟩
        have hv0 : 0 ≤ v := by
          rw [hv]
          split <;> split <;> omega
        refine ⟨v % n, i + 1, v / n, ?_, Int.emod_nonneg _ (by omega), Int.emod_lt_of_pos _ hn, Int.ediv_nonneg hv0 (by omega), by omega, by omega⟩
        simp only [m__law_draw, g__law_draw, N__law_draw, bodyM, startD, sSeq, sIfS, sB, sNot, sNotV, sAnd, sAndT, sOrT, sOp, sVar, sC, sRet, sExpr, sSet, sAsg, sPar, sAug, sCons, sNil, sTup, sLst, sCall, sCB, fb1, ↓RL.bind_m, R.ofO_some, R.ofO_none, R.ofO, List.map_cons, List.map_nil, List.length_cons, List.length_nil, List.cons_append, List.nil_append, List.append_nil, List.replicate, List.set_cons_zero, List.set_cons_succ, List.getElem?_cons_zero, List.getElem?_cons_succ, Option.bind_some, Option.map_some, Option.bind_none, Option.map_none, if_true, if_false, Bool.false_eq_true, decide_true, decide_false, Nat.reduceAdd, Nat.reduceSub, Bool.not_true, Bool.not_false, sIf, sYes, sNext, sBad, tgName, tgTup, tgCons, tgNil, tupOf, seqOf, lstOf, ↓reduceIte, Nat.zero_le, Nat.reduceLeDiff, fIx, hp, pen, at0, at1, at2, fGt, fI, h1, gInt, fMod, fFdiv, tgItem, ix32, ix31, fAdd, fSub, hm1, fMul_ok, hh, hh2, hne0, hne, fLt, fGe, gAbs, gLen, b1, b2, p18, hm7, List.length_map, hlp, hat, ← hv, hn, hn3, Bool.and_self]
        rw [fin_rtL (by rw [← hws]; simp)]
        simp only [← hws, pen, List.set_set]
      · refine ⟨(y * (2 * i + 399) + 55439 * i * i + 841) ^ 3 % 2147483497 / 32 % n, i + 1, g, ?_, (hmix _).1, (hmix _).2, hg, by omega, by omega⟩
        by_cases b1 : i < (S.length : Int)
        · have b2 : ¬ 1000000000000000000 ≤ (if c < 0 then -c else c) := fun z => hbig ⟨b1, z⟩
          simp only [m__law_draw, g__law_draw, N__law_draw, bodyM, startD, sSeq, sIfS, sB, sNot, sNotV, sAnd, sAndT, sOrT, sOp, sVar, sC, sRet, sExpr, sSet, sAsg, sPar, sAug, sCons, sNil, sTup, sLst, sCall, sCB, fb1, ↓RL.bind_m, R.ofO_some, R.ofO_none, R.ofO, List.map_cons, List.map_nil, List.length_cons, List.length_nil, List.cons_append, List.nil_append, List.append_nil, List.replicate, List.set_cons_zero, List.set_cons_succ, List.getElem?_cons_zero, List.getElem?_cons_succ, Option.bind_some, Option.map_some, Option.bind_none, Option.map_none, if_true, if_false, Bool.false_eq_true, decide_true, decide_false, Nat.reduceAdd, Nat.reduceSub, Bool.not_true, Bool.not_false, sIf, sYes, sNext, sBad, tgName, tgTup, tgCons, tgNil, tupOf, seqOf, lstOf, ↓reduceIte, Nat.zero_le, Nat.reduceLeDiff, fIx, hp, pen, at0, at1, at2, fGt, fI, h1, gInt, fMod, fFdiv, tgItem, ix32, ix31, fAdd, hm1, fMul_ok, hh, hh2, hne0, hne, fLt, fGe, gAbs, gLen, b1, b2, p18, List.length_map, hlp, hat, hm2, k1, r1, r2, r3, ← hy, hm3, hm6, hm4, hm5, k2, q32, r32, hn, Bool.and_self]
          rw [fin_rtL (by rw [← hws]; simp)]
          try simp only [← hws, pen]
        · simp only [m__law_draw, g__law_draw, N__law_draw, bodyM, startD, sSeq, sIfS, sB, sNot, sNotV, sAnd, sAndT, sOrT, sOp, sVar, sC, sRet, sExpr, sSet, sAsg, sPar, sAug, sCons, sNil, sTup, sLst, sCall, sCB, fb1, ↓RL.bind_m, R.ofO_some, R.ofO_none, R.ofO, List.map_cons, List.map_nil, List.length_cons, List.length_nil, List.cons_append, List.nil_append, List.append_nil, List.replicate, List.set_cons_zero, List.set_cons_succ, List.getElem?_cons_zero, List.getElem?_cons_succ, Option.bind_some, Option.map_some, Option.bind_none, Option.map_none, if_true, if_false, Bool.false_eq_true, decide_true, decide_false, Nat.reduceAdd, Nat.reduceSub, Bool.not_true, Bool.not_false, sIf, sYes, sNext, sBad, tgName, tgTup, tgCons, tgNil, tupOf, seqOf, lstOf, ↓reduceIte, Nat.zero_le, Nat.reduceLeDiff, fIx, hp, pen, at0, at1, at2, fGt, fI, h1, gInt, fMod, fFdiv, tgItem, ix32, ix31, fAdd, hm1, fMul_ok, hh, hh2, hne0, hne, fLt, gLen, b1, List.length_map, hlp, hat, hm2, k1, r1, r2, r3, ← hy, hm3, hm6, hm4, hm5, k2, q32, r32, hn, Bool.and_self]
          rw [fin_rtL (by rw [← hws]; simp)]
          try simp only [← hws, pen]
end K81
set_option Elab.async false
set_option linter.all false
set_option maxRecDepth 100000
set_option maxHeartbeats 4000000
namespace K81
open RL PySem L2
/-- the store ws0 but for the pen at p, which drew at most j numbers -/
def Dr (S : List Int) (p : Nat) (ws0 : List Ce) (j : Int) (ws : List Ce) : Prop := p < ws0.length ∧ S.length ≤ 63 ∧ ∃ k h, ws = ws0.set p (pen S k h) ∧ 0 ≤ k ∧ k ≤ j ∧ 0 ≤ h
section
variable {S : List Int} {p : Nat} {ws0 ws ws' : List Ce} {j j' : Int}
theorem Dr.len (h : Dr S p ws0 j ws) : ws.length = ws0.length := by
  obtain ⟨_, _, k, g, rfl, _⟩ := h
  simp
theorem Dr.up (h : Dr S p ws0 j ws) (hj : j ≤ j') : Dr S p ws0 j' ws := by
  obtain ⟨a, b, k, g, c, d, e, f⟩ := h
  exact ⟨a, b, k, g, c, d, by omega, f⟩
theorem Dr.at (h : Dr S p ws0 j ws) {q : Nat} (hq : q ≠ p) : ws[q]? = ws0[q]? := by
  obtain ⟨_, _, k, g, rfl, _⟩ := h
  rw [List.getElem?_set_ne (Ne.symm hq)]
theorem Dr.app (h : Dr S p ws0 j ws) (xs : List Ce) : Dr S p (ws0 ++ xs) j (ws ++ xs) := by
  obtain ⟨a, b, k, g, rfl, d⟩ := h
  refine ⟨by rw [List.length_append]; omega, b, k, g, ?_, d⟩
  rw [List.set_append_left _ _ a]
theorem Dr.unapp {xs : List Ce} (a : p < ws0.length) (h : Dr S p (ws0 ++ xs) j ws) : ∃ ws1, ws = ws1 ++ xs ∧ Dr S p ws0 j ws1 := by
  obtain ⟨_, b, k, g, e, d⟩ := h
  exact ⟨ws0.set p (pen S k g), by rw [e, List.set_append_left _ _ a], a, b, k, g, rfl, d⟩
theorem below_ints (n : Nat) : ∀ S : List Int, belows n (S.map D.int) = true
  | [] => rfl
  | a :: S => by simp [belows, below, below_ints n S]
theorem below_pen (n : Nat) (S : List Int) (i g : Int) : belowC n (pen S i g) = true := by simp [pen, belowC, belows, below, below_ints]
theorem Dr.cut (h : Dr S p ws0 j ws) (h' : Dr S p ws0 j' ws') (xs : List Ce) : cutOk ws (ws' ++ xs) := by
  intro i hi
  have l1 := h.len
  have l2 := h'.len
  rw [List.getElem?_append_left (by omega)]
  by_cases e : i = p
  · subst e
    obtain ⟨a, _, k, g, rfl, _⟩ := h'
    exact .inr ⟨_, by rw [List.getElem?_set_self a], below_pen ..⟩
  · exact .inl (by rw [h.at e, h'.at e])
/-- a def's end -/
theorem Dr.fin (h : Dr S p ws0 j ws) (h' : Dr S p ws0 j' ws') {xs : List Ce} {ρ : List (Option D)} {d d' : D} (hd : frzD ws.length (ws' ++ xs) d = some d') (h0 : xs = [] → d' = d) : fin false ws (.ok (ρ, .rt d) (ws' ++ xs)) = .ok d' ws' := by
  have l1 := h.len
  have l2 := h'.len
  by_cases e : xs = []
  · subst e
    rw [h0 rfl]
    rw [List.append_nil]
    exact fin_rtL (by omega)
  · have : (ws' ++ xs).length ≠ ws.length := by
      have := List.length_pos_iff.mpr e
      rw [List.length_append]
      omega
    have t : (ws' ++ xs).take ws.length = ws' := by
      rw [l1, ← l2]
      simp
    simp only [RL.fin, flR, R.bind_ok, frzR, this, if_false, hd, h.cut h' xs, if_true, t, Bool.false_eq_true]
theorem Dr.fin0 (h : Dr S p ws0 j ws) (h' : Dr S p ws0 j' ws') {ρ : List (Option D)} {d : D} : RL.fin false ws (.ok (ρ, .rt d) ws') = .ok d ws' := fin_rtL (by rw [h.len, h'.len])
theorem drw {n : Int} (h : Dr S p ws0 j ws) (hn : 0 < n) (hn2 : n < 1000) (hj : j < 100000) : ∃ d ws', m__law_draw [.cell p, .int n] ws = .ok (.int d) ws' ∧ Dr S p ws0 (j + 1) ws' ∧ 0 ≤ d ∧ d < n := by
  obtain ⟨a, b, k, g, rfl, c, d, e⟩ := h
  obtain ⟨x, k', g', e1, e2, e3, e4, e5, e6⟩ := draw (S := S) (p := p) (i := k) (g := g) (n := n) (ws := ws0.set p (pen S k g)) (by rw [List.getElem?_set_self a]) hn hn2 c (by omega) e b
  refine ⟨x, _, e1, ⟨a, b, k', g', by rw [List.set_set], by omega, by omega, e4⟩, e2, e3⟩
theorem atI_mem {l : List D} {d : Int} (h0 : 0 ≤ d) (h1 : d < (l.length : Int)) : ∃ x, atI l d = some x ∧ x ∈ l := by
  refine ⟨l[d.toNat]'(by omega), ?_, List.getElem_mem _⟩
  simp [atI, ixN, h0, h1]
theorem pick {l : List D} (h : Dr S p ws0 j ws) (hl : 0 < l.length) (hl2 : l.length < 1000) (hj : j < 100000) : ∃ x ws', m__law_pick [.cell p, .lst l] ws = .ok x ws' ∧ Dr S p ws0 (j + 1) ws' ∧ x ∈ l := by
  obtain ⟨d, ws1, e1, D1, b1, b2⟩ := drw h (n := (l.length : Int)) (by omega) (by omega) hj
  obtain ⟨x, h1, h2⟩ := atI_mem b1 b2
  refine ⟨x, ws1, ?_, D1, h2⟩
  simp only [m__law_pick, g__law_pick, N__law_pick, bodyM, startD, sSeq, sIfS, sB, sNot, sNotV, sAnd, sAndT, sOrT, sOp, sVar, sC, sRet, sExpr, sSet, sAsg, sPar, sAug, sCons, sNil, sTup, sLst, sCall, sCB, fb1, ↓RL.bind_m, R.ofO_some, R.ofO_none, R.ofO, List.map_cons, List.map_nil, List.length_cons, List.length_nil, List.cons_append, List.nil_append, List.append_nil, List.replicate, List.set_cons_zero, List.set_cons_succ, List.getElem?_cons_zero, List.getElem?_cons_succ, Option.bind_some, Option.map_some, Option.bind_none, Option.map_none, if_true, if_false, Bool.false_eq_true, decide_true, decide_false, Nat.reduceAdd, Nat.reduceSub, Bool.not_true, Bool.not_false, sIf, sYes, sNext, sBad, tgName, tgTup, tgCons, tgNil, tupOf, seqOf, lstOf, ↓reduceIte, Nat.zero_le, Nat.reduceLeDiff, gLen, e1, fIx, h1]
  rw [h.fin0 D1]
theorem ne_nil0 {ws : List Ce} : fNeD ws (.lst []) (.lst []) = some (.bl false) := ne_nil_ints []
/-- a good sum -/
def Gs (m : Bool) (s : List Int) : Prop := s ≠ [] ∧ s.Pairwise (· < ·) ∧ ∀ x ∈ s, (if m = true then 1 else 0) ≤ x ∧ x ≤ 8
theorem sum1 {m : Bool} (h : Dr S p ws0 j ws) (hj : j + 6 ≤ 100000) : ∃ s ws', m__law_sum [.cell p, .bl m] ws = .ok (dNums s) ws' ∧ Dr S p ws0 (j + 6) ws' ∧ Gs m s := by
  obtain ⟨r, hr, hr1, hr2, hr3⟩ : ∃ r : List Int, intsD (if m = true then 1 else 0) (5 - (if m = true then (1 : Int) else 0)).toNat = r.map .int ∧ r.length ≤ 5 ∧ r.Pairwise (· < ·) ∧ ∀ x ∈ r, (if m = true then 1 else 0) ≤ x ∧ x ≤ 8 := by
    cases m
    · exact ⟨[0, 1, 2, 3, 4], rfl, by decide, by decide, by decide⟩
    · exact ⟨[1, 2, 3, 4], rfl, by decide, by decide, by decide⟩
  obtain ⟨l, ws1, z1, b, a, hb, rfl, D1, k1, k2, _⟩ := lc_inv (t := tgName 3) (c := sB (sOp fEqS (sCall m__law_draw (sCons (sVar 0) (sCons (sC (.int 3)) sNil))) (sC (.int 0)))) (el := sVar 3) (ρ := wipeD [some (D.cell p), some (.bl m), none, none] [3]) (all := r.map .int)
    (fun ds acc ws' => ∃ l a : List Int, ds = l.map .int ∧ acc = a.map .int ∧ Dr S p ws0 (j + 5 - l.length) ws' ∧ (a ++ l).Pairwise (· < ·) ∧ (∀ x ∈ a ++ l, (if m = true then 1 else 0) ≤ x ∧ x ≤ 8) ∧ l.length ≤ 5) (r.map .int) [] ws (by simp; omega)
    ⟨r, [], rfl, rfl, h.up (by omega), hr2, hr3, hr1⟩ (by
      rintro d r' acc ws' ⟨l, a, e1, e2, D1, k1, k2, k3⟩
      cases l with
      | nil => cases e1
      | cons x l =>
        simp only [List.map_cons, List.cons.injEq] at e1
        obtain ⟨rfl, rfl⟩ := e1
        simp only [List.length_cons] at k3 D1
        obtain ⟨y, ws2, e3, D2, b1, b2⟩ := drw D1 (n := 3) (by omega) (by omega) (by omega)
        refine ⟨_, _, decide (y = 0), ws2, rfl, ?_, ?_⟩
        · simp only [wipeD, bodyM, startD, sSeq, sIfS, sB, sNot, sNotV, sAnd, sAndT, sOrT, sOp, sVar, sC, sRet, sExpr, sSet, sAsg, sPar, sAug, sCons, sNil, sTup, sLst, sCall, sCB, fb1, ↓RL.bind_m, R.ofO_some, R.ofO_none, R.ofO, List.map_cons, List.map_nil, List.length_cons, List.length_nil, List.cons_append, List.nil_append, List.append_nil, List.replicate, List.set_cons_zero, List.set_cons_succ, List.getElem?_cons_zero, List.getElem?_cons_succ, Option.bind_some, Option.map_some, Option.bind_none, Option.map_none, if_true, if_false, Bool.false_eq_true, decide_true, decide_false, Nat.reduceAdd, Nat.reduceSub, Bool.not_true, Bool.not_false, sIf, sYes, sNext, sBad, tgName, tgTup, tgCons, tgNil, tupOf, seqOf, lstOf, ↓reduceIte, Nat.zero_le, Nat.reduceLeDiff, e3, fEqS, scalEq]
        · by_cases hy : y = 0
          · refine .inl ⟨by simp [hy], .int x, ws2, ?_, l, a ++ [x], rfl, by simp [e2], D2.up (by omega), by simpa using k1, by simpa using k2, by omega⟩
            simp only [wipeD, bodyM, startD, sSeq, sIfS, sB, sNot, sNotV, sAnd, sAndT, sOrT, sOp, sVar, sC, sRet, sExpr, sSet, sAsg, sPar, sAug, sCons, sNil, sTup, sLst, sCall, sCB, fb1, ↓RL.bind_m, R.ofO_some, R.ofO_none, R.ofO, List.map_cons, List.map_nil, List.length_cons, List.length_nil, List.cons_append, List.nil_append, List.append_nil, List.replicate, List.set_cons_zero, List.set_cons_succ, List.getElem?_cons_zero, List.getElem?_cons_succ, Option.bind_some, Option.map_some, Option.bind_none, Option.map_none, if_true, if_false, Bool.false_eq_true, decide_true, decide_false, Nat.reduceAdd, Nat.reduceSub, Bool.not_true, Bool.not_false, sIf, sYes, sNext, sBad, tgName, tgTup, tgCons, tgNil, tupOf, seqOf, lstOf, ↓reduceIte, Nat.zero_le, Nat.reduceLeDiff]
          · refine .inr ⟨by simp [hy], l, a, rfl, e2, D2.up (by omega), ?_, ?_, by omega⟩
            · exact k1.sublist (by simp)
            · intro x' hx'
              refine k2 x' ?_
              simp only [List.mem_append, List.mem_cons] at hx' ⊢
              rcases hx' with q | q
              · exact .inl q
              · exact .inr (.inr q))
  have hb0 : b = [] := List.map_eq_nil_iff.mp hb.symm
  subst hb0
  rw [List.append_nil] at k1 k2
  have hit : sItR2 (sCons (sCB (fb1 gInt) (sCons (sVar 1) sNil)) (sCons (sC (.int 5)) sNil)) [some (D.cell p), some (.bl m), none, none] ws = .ok (r.map .int, none) ws := by
    have q : ((-1000000 : Int) ≤ if m = true then 1 else 0) ∧ ((if m = true then 1 else 0) : Int) ≤ 1000000 ∧ (-1000000 : Int) ≤ 5 ∧ (5 : Int) ≤ 1000000 := by cases m <;> decide
    simp only [bodyM, startD, sSeq, sIfS, sB, sNot, sNotV, sAnd, sAndT, sOrT, sOp, sVar, sC, sRet, sExpr, sSet, sAsg, sPar, sAug, sCons, sNil, sTup, sLst, sCall, sCB, fb1, ↓RL.bind_m, R.ofO_some, R.ofO_none, R.ofO, List.map_cons, List.map_nil, List.length_cons, List.length_nil, List.cons_append, List.nil_append, List.append_nil, List.replicate, List.set_cons_zero, List.set_cons_succ, List.getElem?_cons_zero, List.getElem?_cons_succ, Option.bind_some, Option.map_some, Option.bind_none, Option.map_none, if_true, if_false, Bool.false_eq_true, decide_true, decide_false, Nat.reduceAdd, Nat.reduceSub, Bool.not_true, Bool.not_false, sIf, sYes, sNext, sBad, tgName, tgTup, tgCons, tgNil, tupOf, seqOf, lstOf, ↓reduceIte, Nat.zero_le, Nat.reduceLeDiff, gInt, sItR2, hr, q, and_self]
  simp only [List.length_nil] at D1
  have D1 : Dr S p ws0 (j + 5) ws1 := D1.up (by omega)
  by_cases ha : a = []
  · obtain ⟨d, ws2, e3, D2, b1, b2⟩ := drw D1 (n := 8) (by omega) (by omega) (by omega)
    refine ⟨[1 + d], ws2, ?_, D2.up (by omega), by simp, by simp, ?_⟩
    · subst ha
      simp only [m__law_sum, g__law_sum, N__law_sum, sLc, sLcG, fzL, hit, z1, ne_nil0, e3, fAdd, fI, bodyM, startD, sSeq, sIfS, sB, sNot, sNotV, sAnd, sAndT, sOrT, sOp, sVar, sC, sRet, sExpr, sSet, sAsg, sPar, sAug, sCons, sNil, sTup, sLst, sCall, sCB, fb1, ↓RL.bind_m, R.ofO_some, R.ofO_none, R.ofO, List.map_cons, List.map_nil, List.length_cons, List.length_nil, List.cons_append, List.nil_append, List.append_nil, List.replicate, List.set_cons_zero, List.set_cons_succ, List.getElem?_cons_zero, List.getElem?_cons_succ, Option.bind_some, Option.map_some, Option.bind_none, Option.map_none, if_true, if_false, Bool.false_eq_true, decide_true, decide_false, Nat.reduceAdd, Nat.reduceSub, Bool.not_true, Bool.not_false, sIf, sYes, sNext, sBad, tgName, tgTup, tgCons, tgNil, tupOf, seqOf, lstOf, ↓reduceIte, Nat.zero_le, Nat.reduceLeDiff]
      rw [h.fin0 D2]
      rfl
    · intro x hx
      simp only [List.mem_singleton] at hx
      subst hx
      cases m <;> simp <;> omega
  · refine ⟨a, ws1, ?_, D1.up (by omega), ha, k1, k2⟩
    simp only [m__law_sum, g__law_sum, N__law_sum, sLc, sLcG, fzL, hit, z1, ne_nil_ints, ha, gTuple, bodyM, startD, sSeq, sIfS, sB, sNot, sNotV, sAnd, sAndT, sOrT, sOp, sVar, sC, sRet, sExpr, sSet, sAsg, sPar, sAug, sCons, sNil, sTup, sLst, sCall, sCB, fb1, ↓RL.bind_m, R.ofO_some, R.ofO_none, R.ofO, List.map_cons, List.map_nil, List.length_cons, List.length_nil, List.cons_append, List.nil_append, List.append_nil, List.replicate, List.set_cons_zero, List.set_cons_succ, List.getElem?_cons_zero, List.getElem?_cons_succ, Option.bind_some, Option.map_some, Option.bind_none, Option.map_none, if_true, if_false, Bool.false_eq_true, decide_true, decide_false, Nat.reduceAdd, Nat.reduceSub, Bool.not_true, Bool.not_false, sIf, sYes, sNext, sBad, tgName, tgTup, tgCons, tgNil, tupOf, seqOf, lstOf, ↓reduceIte, Nat.zero_le, Nat.reduceLeDiff]
    rw [h.fin0 D1]
    rfl
end
end K81
set_option Elab.async false
set_option linter.all false
set_option maxRecDepth 100000
set_option maxHeartbeats 4000000
namespace K81
open RL PySem L2
abbrev Tk := Bool × List (List Int)
/-- a tick as the law has it -/
def dTick (t : Tk) : D := .tup [.bl t.1, .lst (t.2.map dNums)]
def Gt (t : Tk) : Prop := (∀ s ∈ t.2, Gs t.1 s) ∧ t.2.Nodup ∧ t.2.length ≤ 6
theorem below_nums (n : Nat) (s : List Int) : below n (dNums s) = true := by simp [dNums, below, below_ints]
theorem below_numss (n : Nat) : ∀ l : List (List Int), belows n (l.map dNums) = true
  | [] => rfl
  | a :: l => by simp [belows, below_nums, below_numss n l]
section
variable {S : List Int} {p : Nat} {ws0 ws ws' : List Ce} {j j' : Int}
theorem last_get {c : Ce} {n : Nat} (h : ws.length = n) : (ws ++ [c])[n]? = some c := by subst h; simp
theorem last_set {c d : Ce} {n : Nat} (h : ws.length = n) : (ws ++ [c]).set n d = ws ++ [d] := by subst h; simp
theorem tick1 (h : Dr S p ws0 j ws) (hj : j + 20 ≤ 100000) : ∃ t ws', m__law_tick [.cell p] ws = .ok (dTick t) ws' ∧ Dr S p ws0 (j + 20) ws' ∧ Gt t := by
  obtain ⟨d, ws1, e1, D1, b1, b2⟩ := drw h (n := 5) (by omega) (by omega) (by omega)
  have l1 := D1.len
  generalize hm : decide (d = 0) = m
  obtain ⟨x, ws2, e2, D2, hx⟩ := pick (l := [.int 1, .int 2, .int 2, .int 3, .int 0]) (D1.app [.lst []]) (by simp) (by simp) (by omega)
  obtain ⟨n, rfl, hn⟩ : ∃ n : Nat, x = .int (n : Nat) ∧ n ≤ 3 := by
    simp only [List.mem_cons, List.not_mem_nil, or_false] at hx
    rcases hx with rfl | rfl | rfl | rfl | rfl
    · exact ⟨1, rfl, by omega⟩
    · exact ⟨2, rfl, by omega⟩
    · exact ⟨2, rfl, by omega⟩
    · exact ⟨3, rfl, by omega⟩
    · exact ⟨0, rfl, by omega⟩
  obtain ⟨ws3, rfl, D3⟩ := D2.unapp D1.1
  obtain ⟨ρ', ws4, z1, l, ws5, u, v, rfl, rfl, D5, k1, k2, k3⟩ := for_inv (t := tgName 3) (all := intsD 0 n) (body := (sSeq (sSet 4 (sCall m__law_sum (sCons (sVar 0) (sCons (sVar 1) sNil))))
    (sIfS (sB (sOp fNotInD (sVar 4) (sVar 2))) (sExpr (sMB "list" fmAppend (sVar 2) (sCons (sVar 4) sNil))) sNext)))
    (fun ds ρ w => ∃ (l : List (List Int)) (w1 : List Ce) (u v : Option D), ρ = [some (.cell p), some (.bl m), some (.cell ws0.length), u, v] ∧ w = w1 ++ [.lst (l.map dNums)] ∧ Dr S p ws0 (j + 2 + 6 * (3 - ds.length)) w1 ∧ (∀ s ∈ l, Gs m s) ∧ l.Nodup ∧ l.length + ds.length ≤ 3)
    (intsD 0 n) [some (.cell p), some (.bl m), some (.cell ws0.length), none, none] (ws3 ++ [.lst []])
    ⟨[], ws3, none, none, rfl, rfl, D3.up (by rw [intsD_len]; omega), by simp, by simp, by rw [intsD_len]; simpa using hn⟩ (by
      rintro d r ρ w ⟨l, w1, u, v, rfl, rfl, D4, k1, k2, k3⟩
      simp only [List.length_cons] at D4 k3
      obtain ⟨s, w2, e3, D5, hs⟩ := sum1 (m := m) (D4.app [.lst (l.map dNums)]) (by omega)
      obtain ⟨w3, rfl, D6⟩ := D5.unapp D4.1
      have hq : (w3 ++ [Ce.lst (l.map dNums)])[ws0.length]? = some (.lst (l.map dNums)) := last_get D6.len
      refine ⟨_, _, [some (.cell p), some (.bl m), some (.cell ws0.length), some d, some (dNums s)], w3 ++ [.lst ((if s ∈ l then l else l ++ [s]).map dNums)], rfl, ?_, ?_⟩
      · by_cases hin : s ∈ l
        · simp only [bodyM, startD, sSeq, sIfS, sB, sNot, sNotV, sAnd, sAndT, sOrT, sOp, sVar, sC, sRet, sExpr, sSet, sAsg, sPar, sAug, sCons, sNil, sTup, sLst, sCall, sCB, fb1, ↓RL.bind_m, R.ofO_some, R.ofO_none, R.ofO, List.map_cons, List.map_nil, List.length_cons, List.length_nil, List.cons_append, List.nil_append, List.append_nil, List.replicate, List.set_cons_zero, List.set_cons_succ, List.getElem?_cons_zero, List.getElem?_cons_succ, Option.bind_some, Option.map_some, Option.bind_none, Option.map_none, if_true, if_false, Bool.false_eq_true, decide_true, decide_false, Nat.reduceAdd, Nat.reduceSub, Bool.not_true, Bool.not_false, sIf, sYes, sNext, sBad, tgName, tgTup, tgCons, tgNil, tupOf, seqOf, lstOf, ↓reduceIte, Nat.zero_le, Nat.reduceLeDiff, e3, notIn_numssC s l hq, hin]
        · have hl : l.length < 100000 := by omega
          simp only [bodyM, startD, sSeq, sIfS, sB, sNot, sNotV, sAnd, sAndT, sOrT, sOp, sVar, sC, sRet, sExpr, sSet, sAsg, sPar, sAug, sCons, sNil, sTup, sLst, sCall, sCB, fb1, ↓RL.bind_m, R.ofO_some, R.ofO_none, R.ofO, List.map_cons, List.map_nil, List.length_cons, List.length_nil, List.cons_append, List.nil_append, List.append_nil, List.replicate, List.set_cons_zero, List.set_cons_succ, List.getElem?_cons_zero, List.getElem?_cons_succ, Option.bind_some, Option.map_some, Option.bind_none, Option.map_none, if_true, if_false, Bool.false_eq_true, decide_true, decide_false, Nat.reduceAdd, Nat.reduceSub, Bool.not_true, Bool.not_false, sIf, sYes, sNext, sBad, tgName, tgTup, tgCons, tgNil, tupOf, seqOf, lstOf, ↓reduceIte, Nat.zero_le, Nat.reduceLeDiff, e3, notIn_numssC s l hq, hin, sMB, isTy, hq, fmAppend, List.length_map, hl, beq_self_eq_true, last_set D6.len, List.map_append]
      · refine ⟨_, w3, _, _, rfl, rfl, D6.up (by omega), ?_, ?_, ?_⟩
        · intro s' h'
          split at h'
          · exact k1 s' h'
          · rw [List.mem_append, List.mem_singleton] at h'
            rcases h' with q | rfl
            · exact k1 s' q
            · exact hs
        · split
          · exact k2
          · rename_i hin
            rw [List.nodup_append]
            exact ⟨k2, by simp, by
              intro a ha b hb
              rw [List.mem_singleton] at hb
              subst hb
              rintro rfl
              exact hin ha⟩
        · split
          · omega
          · rw [List.length_append, List.length_singleton]
            omega)
  simp only [List.length_nil] at D5 k3
  refine ⟨(m, l), ws5, ?_, D5.up (by omega), k1, k2, by simpa using Nat.le_trans k3 (by omega)⟩
  have q1 : (-1000000 : Int) ≤ (n : Int) ∧ (n : Int) ≤ 1000000 := by omega
  simp only [m__law_tick, g__law_tick, N__law_tick, bodyM, startD, sSeq, sIfS, sB, sNot, sNotV, sAnd, sAndT, sOrT, sOp, sVar, sC, sRet, sExpr, sSet, sAsg, sPar, sAug, sCons, sNil, sTup, sLst, sCall, sCB, fb1, ↓RL.bind_m, R.ofO_some, R.ofO_none, R.ofO, List.map_cons, List.map_nil, List.length_cons, List.length_nil, List.cons_append, List.nil_append, List.append_nil, List.replicate, List.set_cons_zero, List.set_cons_succ, List.getElem?_cons_zero, List.getElem?_cons_succ, Option.bind_some, Option.map_some, Option.bind_none, Option.map_none, if_true, if_false, Bool.false_eq_true, decide_true, decide_false, Nat.reduceAdd, Nat.reduceSub, Bool.not_true, Bool.not_false, sIf, sYes, sNext, sBad, tgName, tgTup, tgCons, tgNil, tupOf, seqOf, lstOf, ↓reduceIte, Nat.zero_le, Nat.reduceLeDiff, e1, fEqS, scalEq, hm, sLstM, l1, sFor, sItR1, e2, q1, and_self, Int.toNat_natCast, z1]
  rw [h.fin D5 (d' := dTick (m, l)) ?_ (by simp)]
  simp only [dTick, frzD, frzDs, h.len, Nat.lt_irrefl, if_false, last_get D5.len, below_numss, if_true, Option.map_some, Option.bind_some]
end
end K81
set_option Elab.async false
set_option linter.all false
set_option maxRecDepth 100000
set_option maxHeartbeats 4000000
namespace K81
open RL PySem L2
/-! numbers, sums -/
section
variable {ws : List Ce}
theorem is_int (i : Int) : m_is_integer [.int i] ws = .ok (.bl true) ws := by
  simp only [m_is_integer, g_is_integer, N_is_integer, bodyM, startD, sSeq, sIfS, sB, sNot, sNotV, sAnd, sAndT, sOrT, sOp, sVar, sC, sRet, sExpr, sSet, sAsg, sPar, sAug, sCons, sNil, sTup, sLst, sCall, sCB, fb1, ↓RL.bind_m, R.ofO_some, R.ofO_none, R.ofO, List.map_cons, List.map_nil, List.length_cons, List.length_nil, List.cons_append, List.nil_append, List.append_nil, List.replicate, List.set_cons_zero, List.set_cons_succ, List.getElem?_cons_zero, List.getElem?_cons_succ, Option.bind_some, Option.map_some, Option.bind_none, Option.map_none, if_true, if_false, Bool.false_eq_true, decide_true, decide_false, Nat.reduceAdd, Nat.reduceSub, Bool.not_true, Bool.not_false, sIf, sYes, sNext, sBad, tgName, tgTup, tgCons, tgNil, tupOf, seqOf, lstOf, ↓reduceIte, Nat.zero_le, Nat.reduceLeDiff, sIsi, tyD, show tab_int.lookup (.b "int") = some true from rfl, show tab_bool.lookup (.b "int") = some false from rfl, fin_rt]
theorem is_within (v a b : Int) : m_is_within [.int v, .int a, .int b] ws = .ok (.bl (decide (a ≤ v) && decide (v ≤ b))) ws := by
  by_cases h : a ≤ v
  · simp only [m_is_within, g_is_within, N_is_within, bodyM, startD, sSeq, sIfS, sB, sNot, sNotV, sAnd, sAndT, sOrT, sOp, sVar, sC, sRet, sExpr, sSet, sAsg, sPar, sAug, sCons, sNil, sTup, sLst, sCall, sCB, fb1, ↓RL.bind_m, R.ofO_some, R.ofO_none, R.ofO, List.map_cons, List.map_nil, List.length_cons, List.length_nil, List.cons_append, List.nil_append, List.append_nil, List.replicate, List.set_cons_zero, List.set_cons_succ, List.getElem?_cons_zero, List.getElem?_cons_succ, Option.bind_some, Option.map_some, Option.bind_none, Option.map_none, if_true, if_false, Bool.false_eq_true, decide_true, decide_false, Nat.reduceAdd, Nat.reduceSub, Bool.not_true, Bool.not_false, sIf, sYes, sNext, sBad, tgName, tgTup, tgCons, tgNil, tupOf, seqOf, lstOf, ↓reduceIte, Nat.zero_le, Nat.reduceLeDiff, is_int, sChain, fLe, fI, h, fin_rt, Bool.true_and]
  · simp only [m_is_within, g_is_within, N_is_within, bodyM, startD, sSeq, sIfS, sB, sNot, sNotV, sAnd, sAndT, sOrT, sOp, sVar, sC, sRet, sExpr, sSet, sAsg, sPar, sAug, sCons, sNil, sTup, sLst, sCall, sCB, fb1, ↓RL.bind_m, R.ofO_some, R.ofO_none, R.ofO, List.map_cons, List.map_nil, List.length_cons, List.length_nil, List.cons_append, List.nil_append, List.append_nil, List.replicate, List.set_cons_zero, List.set_cons_succ, List.getElem?_cons_zero, List.getElem?_cons_succ, Option.bind_some, Option.map_some, Option.bind_none, Option.map_none, if_true, if_false, Bool.false_eq_true, decide_true, decide_false, Nat.reduceAdd, Nat.reduceSub, Bool.not_true, Bool.not_false, sIf, sYes, sNext, sBad, tgName, tgTup, tgCons, tgNil, tupOf, seqOf, lstOf, ↓reduceIte, Nat.zero_le, Nat.reduceLeDiff, is_int, sChain, fLe, fI, h, fin_rt, Bool.false_and]
theorem is_age (v : Int) (h0 : 0 ≤ v) (h1 : v ≤ 8) : m_is_age [.int v] ws = .ok (.bl true) ws := by
  simp only [m_is_age, g_is_age, N_is_age, bodyM, startD, sSeq, sIfS, sB, sNot, sNotV, sAnd, sAndT, sOrT, sOp, sVar, sC, sRet, sExpr, sSet, sAsg, sPar, sAug, sCons, sNil, sTup, sLst, sCall, sCB, fb1, ↓RL.bind_m, R.ofO_some, R.ofO_none, R.ofO, List.map_cons, List.map_nil, List.length_cons, List.length_nil, List.cons_append, List.nil_append, List.append_nil, List.replicate, List.set_cons_zero, List.set_cons_succ, List.getElem?_cons_zero, List.getElem?_cons_succ, Option.bind_some, Option.map_some, Option.bind_none, Option.map_none, if_true, if_false, Bool.false_eq_true, decide_true, decide_false, Nat.reduceAdd, Nat.reduceSub, Bool.not_true, Bool.not_false, sIf, sYes, sNext, sBad, tgName, tgTup, tgCons, tgNil, tupOf, seqOf, lstOf, ↓reduceIte, Nat.zero_le, Nat.reduceLeDiff, is_within, h0, h1, Bool.and_self, fin_rt]
theorem bls_true : ∀ l : List D, blsOf (l.map fun _ => D.bl true) = some (l.map fun _ => true)
  | [] => rfl
  | a :: l => by simp [blsOf, bls_true l]
theorem all_true : ∀ l : List D, (l.map fun _ => true).all id = true
  | [] => rfl
  | a :: l => by simp
theorem Gs.age {m : Bool} {s : List Int} (h : Gs m s) : ∀ x ∈ s, 0 ≤ x ∧ x ≤ 8 := by
  intro x hx
  have := h.2.2 x hx
  cases m <;> simp at this <;> omega
theorem Gs.len {m : Bool} {s : List Int} (h : Gs m s) : s.length ≤ 9 := by
  have key : ∀ (s : List Int) (a : Int), s.Pairwise (· < ·) → (∀ x ∈ s, a ≤ x ∧ x ≤ 8) → (s.length : Int) ≤ 9 - a ∨ s = [] := by
    intro s
    induction s with
    | nil => intro a _ _; exact .inr rfl
    | cons x s ih =>
      intro a hp hx
      rw [List.pairwise_cons] at hp
      have := hx x (List.mem_cons_self ..)
      rcases ih (x + 1) hp.2 (fun y hy => ⟨hp.1 y hy, (hx y (List.mem_cons_of_mem _ hy)).2⟩) with q | q
      · left
        simp only [List.length_cons]
        omega
      · subst q
        left
        simp
        omega
  rcases key s 0 h.2.1 (h.age) with q | q
  · omega
  · subst q; simp
theorem is_sum {m : Bool} {s : List Int} (h : Gs m s) : m_is_sum [dNums s] ws = .ok (.bl true) ws := by
  have hl := h.len
  have hs0 : ¬ ((s.length : Int) = 0) := by
    have := List.length_pos_iff.mpr h.1
    omega
  have z1 := lc_map (src := none) (t := tgName 1) (el := sCall m_is_age (sCons (sVar 1) sNil)) (ρ := wipeD [some (dNums s), none, none] [1]) (f := fun _ => .bl true) (ws := ws) (all := s.map .int) trivial (s.map .int) [] (by simp; omega) (by
    intro d hd
    obtain ⟨x, hx, rfl⟩ := List.mem_map.mp hd
    have := h.age x hx
    exact ⟨_, rfl, by simp only [wipeD, bodyM, startD, sSeq, sIfS, sB, sNot, sNotV, sAnd, sAndT, sOrT, sOp, sVar, sC, sRet, sExpr, sSet, sAsg, sPar, sAug, sCons, sNil, sTup, sLst, sCall, sCB, fb1, ↓RL.bind_m, R.ofO_some, R.ofO_none, R.ofO, List.map_cons, List.map_nil, List.length_cons, List.length_nil, List.cons_append, List.nil_append, List.append_nil, List.replicate, List.set_cons_zero, List.set_cons_succ, List.getElem?_cons_zero, List.getElem?_cons_succ, Option.bind_some, Option.map_some, Option.bind_none, Option.map_none, if_true, if_false, Bool.false_eq_true, decide_true, decide_false, Nat.reduceAdd, Nat.reduceSub, Bool.not_true, Bool.not_false, sIf, sYes, sNext, sBad, tgName, tgTup, tgCons, tgNil, tupOf, seqOf, lstOf, ↓reduceIte, Nat.zero_le, Nat.reduceLeDiff, is_age x this.1 this.2]⟩)
  have z2 := lc_map (src := none) (t := tgName 2) (el := sOp fLt (sOp fIx (sVar 0) (sVar 2)) (sOp fIx (sVar 0) (sOp fAdd (sVar 2) (sC (.int 1))))) (ρ := wipeD [some (dNums s), none, none] [2]) (f := fun _ => .bl true) (ws := ws) (all := intsD 0 ((s.length : Int) - 1).toNat) trivial (intsD 0 ((s.length : Int) - 1).toNat) [] (by simp [intsD_len]; omega) (by
    intro d hd
    obtain ⟨k, hk, rfl⟩ := List.mem_map.mp hd
    rw [List.mem_range] at hk
    have hk1 : k + 1 < s.length := by omega
    have a1 : atI (s.map D.int) (0 + (k : Int)) = some (.int (s[k]'(by omega))) := by
      have : (k : Int) < (s.length : Int) := by omega
      simp [atI, ixN, this]
    have a2 : atI (s.map D.int) (0 + (k : Int) + 1) = some (.int (s[k + 1]'hk1)) := by
      have e : (0 + (k : Int) + 1) = ((k + 1 : Nat) : Int) := by omega
      have : ((k + 1 : Nat) : Int) < (s.length : Int) := by omega
      rw [e]
      simp only [atI, ixN, List.length_map, this, if_true, Int.natCast_nonneg, Option.bind_some, Int.toNat_natCast, List.getElem?_map]
      simp
    have lt : s[k]'(by omega) < s[k + 1]'hk1 := List.pairwise_iff_getElem.mp h.2.1 k (k + 1) (by omega) hk1 (by omega)
    exact ⟨_, rfl, by simp only [wipeD, bodyM, startD, sSeq, sIfS, sB, sNot, sNotV, sAnd, sAndT, sOrT, sOp, sVar, sC, sRet, sExpr, sSet, sAsg, sPar, sAug, sCons, sNil, sTup, sLst, sCall, sCB, fb1, ↓RL.bind_m, R.ofO_some, R.ofO_none, R.ofO, List.map_cons, List.map_nil, List.length_cons, List.length_nil, List.cons_append, List.nil_append, List.append_nil, List.replicate, List.set_cons_zero, List.set_cons_succ, List.getElem?_cons_zero, List.getElem?_cons_succ, Option.bind_some, Option.map_some, Option.bind_none, Option.map_none, if_true, if_false, Bool.false_eq_true, decide_true, decide_false, Nat.reduceAdd, Nat.reduceSub, Bool.not_true, Bool.not_false, sIf, sYes, sNext, sBad, tgName, tgTup, tgCons, tgNil, tupOf, seqOf, lstOf, ↓reduceIte, Nat.zero_le, Nat.reduceLeDiff, dNums, fIx, a1, a2, fAdd, fI, fLt, lt]⟩)
  have q1 : (-1000000 : Int) ≤ (s.length : Int) - 1 ∧ (s.length : Int) - 1 ≤ 1000000 := by omega
  rw [List.nil_append] at z1 z2
  simp only [dNums] at z1 z2 ⊢
  simp only [m_is_sum, g_is_sum, N_is_sum, bodyM, startD, sSeq, sIfS, sB, sNot, sNotV, sAnd, sAndT, sOrT, sOp, sVar, sC, sRet, sExpr, sSet, sAsg, sPar, sAug, sCons, sNil, sTup, sLst, sCall, sCB, fb1, ↓RL.bind_m, R.ofO_some, R.ofO_none, R.ofO, List.map_cons, List.map_nil, List.length_cons, List.length_nil, List.cons_append, List.nil_append, List.append_nil, List.replicate, List.set_cons_zero, List.set_cons_succ, List.getElem?_cons_zero, List.getElem?_cons_succ, Option.bind_some, Option.map_some, Option.bind_none, Option.map_none, if_true, if_false, Bool.false_eq_true, decide_true, decide_false, Nat.reduceAdd, Nat.reduceSub, Bool.not_true, Bool.not_false, sIf, sYes, sNext, sBad, tgName, tgTup, tgCons, tgNil, tupOf, seqOf, lstOf, ↓reduceIte, Nat.zero_le, Nat.reduceLeDiff, sIsi, tyD, show tab_tuple.lookup (.b "tuple") = some true from rfl, gLen, List.length_map, fEqS, scalEq, hs0, sLc, sLcG, fzL, sItT, z1, gAll, bls_true, all_true, sItR1, fSub, fI, q1, and_self, z2, fin_rt]
end
end K81
set_option Elab.async false
set_option linter.all false
set_option maxRecDepth 100000
set_option maxHeartbeats 4000000
namespace K81
open RL PySem L2
/-- the objects -/
def oTick (t : Tk) : D := .ins "Tick" ["sums", "mute"] [.tup (t.2.map dNums), .bl t.1]
def oPlan (ts : List Tk) : D := .ins "Plan" ["own_ticks"] [.tup (ts.map oTick)]
theorem below_oTick (n : Nat) (t : Tk) : below n (oTick t) = true := by simp [oTick, below, belows, below_numss]
theorem below_oTicks (n : Nat) : ∀ ts : List Tk, belows n (ts.map oTick) = true
  | [] => rfl
  | a :: l => by simp [belows, below_oTick, below_oTicks n l]
theorem below_oPlan (n : Nat) (ts : List Tk) : below n (oPlan ts) = true := by simp [oPlan, below, belows, below_oTicks]
section
variable {ws : List Ce}
theorem flats_ints : ∀ s : List Int, flatsOf (s.map .int) = some (s.map V.int)
  | [] => rfl
  | a :: s => by simp [flatsOf, flatOf, flats_ints s]
theorem inV_ints (x : Int) : ∀ s : List Int, inV (.int x) (s.map V.int) = decide (x ∈ s)
  | [] => rfl
  | a :: s => by
    have z := inV_ints x s
    unfold inV at z ⊢
    rw [List.map_cons, List.any_cons, z]
    simp only [eqV, List.mem_cons, Bool.decide_or]
    congr 1
    by_cases h : a = x
    · subst h; simp
    · have h2 : ¬ x = a := fun q => h q.symm
      simp [h, h2]
theorem inF_nums (x : Int) (s : List Int) : fInF false ws (.int x) (dNums s) = some (.bl (decide (x ∈ s))) := by
  simp only [fInF, flatOf, dNums, seqOf, flats_ints, Option.bind_some, inV_ints, Bool.false_eq_true, if_false]
theorem star_cut (L : List D) (c b : D) : ((c :: (L ++ [b])).take 1 ++ (c :: (L ++ [b])).drop ((c :: (L ++ [b])).length - 1) ++ [.tup (((c :: (L ++ [b])).drop 1).take ((c :: (L ++ [b])).length - 1 - 1))]) = [c, b, .tup L] := by
  simp
theorem bls_of : ∀ l : List Bool, blsOf (l.map .bl) = some l := blsOf_map
theorem tick_mk {t : Tk} (h : Gt t) : mkR false "Tick" m_Tick___init__ (t.2.map dNums ++ [.bl t.1]) ws = .ok (oTick t) ws := by
  obtain ⟨m, l⟩ := t
  obtain ⟨h1, h2, h3⟩ := h
  simp only at h1 h2 h3 ⊢
  have hc : (ws ++ [Ce.ins "Tick" [] []])[ws.length]? = some (.ins "Tick" [] []) := last_get rfl
  obtain ⟨ρ', z1, _, u, v, rfl⟩ := for_fold (src := none) (t := tgTup 2 (tgCons (tgName 3) (tgCons (tgName 4) tgNil))) (body := sIfS (sOrT (sNot (sB (sCall m_is_sum (sCons (sVar 4) sNil)))) (sB (sOp (fInT false) (sVar 4) (sSlice (sVar 2) soNone (soSome (sVar 3)))))) (sRaise "BadTick" ["part"] (sCons (sVar 3) sNil)) sNext)
    (ws := ws ++ [Ce.ins "Tick" [] []]) (all := enumD (l.map dNums)) trivial
    (fun ds ρ => (∀ d ∈ ds, ∃ (i : Nat) (hi : i < l.length), d = .tup [.int (i : Nat), dNums l[i]]) ∧ ∃ u v, ρ = [some (.cell ws.length), some (.bl m), some (.tup (l.map dNums)), u, v])
    (enumD (l.map dNums)) [some (.cell ws.length), some (.bl m), some (.tup (l.map dNums)), none, none]
    ⟨by
      intro d hd
      obtain ⟨i, hi, rfl⟩ := List.mem_map.mp hd
      rw [List.mem_range, List.length_map] at hi
      exact ⟨i, hi, by simp [hi]⟩, _, _, rfl⟩ (by
      rintro d r ρ ⟨k1, u, v, rfl⟩
      obtain ⟨i, hi, rfl⟩ := k1 d (List.mem_cons_self ..)
      refine ⟨_, [some (.cell ws.length), some (.bl m), some (.tup (l.map dNums)), some (.int (i : Nat)), some (dNums l[i])], rfl, ?_, fun d hd => k1 d (List.mem_cons_of_mem _ hd), _, _, rfl⟩
      have hg := h1 l[i] (List.getElem_mem hi)
      have cut : cutG (l.map dNums) none (some ((i : Nat) : Int)) = (l.take i).map dNums := by
        simp only [cutG, HT.sIx_none, HT.sIx_nat, List.drop_zero, Nat.sub_zero, List.length_map, List.map_take]
        congr 1
        omega
      have hn : ¬ l[i] ∈ l.take i := by
        intro q
        obtain ⟨k, hk, e⟩ := List.mem_iff_getElem.mp q
        rw [List.length_take] at hk
        rw [List.getElem_take] at e
        have := (List.nodup_iff_pairwise_ne.mp h2)
        exact List.pairwise_iff_getElem.mp this k i (by omega) hi (by omega) e
      simp only [bodyM, startD, sSeq, sIfS, sB, sNot, sNotV, sAnd, sAndT, sOrT, sOp, sVar, sC, sRet, sExpr, sSet, sAsg, sPar, sAug, sCons, sNil, sTup, sLst, sCall, sCB, fb1, ↓RL.bind_m, R.ofO_some, R.ofO_none, R.ofO, List.map_cons, List.map_nil, List.length_cons, List.length_nil, List.cons_append, List.nil_append, List.append_nil, List.replicate, List.set_cons_zero, List.set_cons_succ, List.getElem?_cons_zero, List.getElem?_cons_succ, Option.bind_some, Option.map_some, Option.bind_none, Option.map_none, if_true, if_false, Bool.false_eq_true, decide_true, decide_false, Nat.reduceAdd, Nat.reduceSub, Bool.not_true, Bool.not_false, sIf, sYes, sNext, sBad, tgName, tgTup, tgCons, tgNil, tupOf, seqOf, lstOf, ↓reduceIte, Nat.zero_le, Nat.reduceLeDiff, is_sum hg, sSlice, soNone, soSome, cut, inT_numss, hn])
  have hlen : ¬ (6 : Int) < (l.length : Int) := by omega
  have hany : (l.map fun s => decide ((0 : Int) ∈ s)).any id = true → m = false := by
    intro q
    obtain ⟨b, hb, hb2⟩ := List.any_eq_true.mp q
    obtain ⟨s, hs, rfl⟩ := List.mem_map.mp hb
    have h0 := (h1 s hs).2.2 0 (of_decide_eq_true hb2)
    cases m
    · rfl
    · simp at h0
  have z2 := lc_map (src := none) (t := tgName 4) (el := sOp (fInF false) (sC (.int 0)) (sVar 4)) (ρ := wipeD [some (D.cell ws.length), some (.bl m), some (.tup (l.map dNums)), u, v] [4])
    (f := fun d => match d with
      | .tup s => .bl (decide (D.int 0 ∈ s))
      | _ => .non) (ws := ws ++ [Ce.ins "Tick" [] []]) (all := l.map dNums) trivial (l.map dNums) [] (by simp; omega) (by
    intro d hd
    obtain ⟨s, hs, rfl⟩ := List.mem_map.mp hd
    have e : decide (D.int 0 ∈ s.map D.int) = decide ((0 : Int) ∈ s) := by
      apply decide_eq_decide.mpr
      simp
    refine ⟨_, rfl, ?_⟩
    have q := inF_nums (ws := ws ++ [Ce.ins "Tick" [] []]) 0 s
    simp only [dNums] at q
    simp only [wipeD, bodyM, startD, sSeq, sIfS, sB, sNot, sNotV, sAnd, sAndT, sOrT, sOp, sVar, sC, sRet, sExpr, sSet, sAsg, sPar, sAug, sCons, sNil, sTup, sLst, sCall, sCB, fb1, ↓RL.bind_m, R.ofO_some, R.ofO_none, R.ofO, List.map_cons, List.map_nil, List.length_cons, List.length_nil, List.cons_append, List.nil_append, List.append_nil, List.replicate, List.set_cons_zero, List.set_cons_succ, List.getElem?_cons_zero, List.getElem?_cons_succ, Option.bind_some, Option.map_some, Option.bind_none, Option.map_none, if_true, if_false, Bool.false_eq_true, decide_true, decide_false, Nat.reduceAdd, Nat.reduceSub, Bool.not_true, Bool.not_false, sIf, sYes, sNext, sBad, tgName, tgTup, tgCons, tgNil, tupOf, seqOf, lstOf, ↓reduceIte, Nat.zero_le, Nat.reduceLeDiff, q, dNums, e])
  have e2 : ((l.map dNums).map fun d => match d with
      | .tup s => D.bl (decide (D.int 0 ∈ s))
      | _ => .non) = (l.map fun s => decide ((0 : Int) ∈ s)).map .bl := by
    rw [List.map_map, List.map_map]
    apply List.map_congr_left
    intro s _
    simp [dNums]
  rw [List.nil_append, e2] at z2
  have hm : m_Tick___init__ (.cell ws.length :: (l.map dNums ++ [.bl m])) (ws ++ [Ce.ins "Tick" [] []]) = .ok .non (ws ++ [.ins "Tick" ["sums", "mute"] [.tup (l.map dNums), .bl m]]) := by
    have hb : 1 + 1 ≤ (D.cell ws.length :: (l.map dNums ++ [.bl m])).length ∧ (D.cell ws.length :: (l.map dNums ++ [.bl m])).length ≤ 100000 := by
      simp
      omega
    have hw : (ws ++ [Ce.ins "Tick" ["sums"] [.tup (l.map dNums)]])[ws.length]? = some (.ins "Tick" ["sums"] [.tup (l.map dNums)]) := last_get rfl
    unfold m_Tick___init__ starM
    rw [if_pos hb, star_cut]
    cases m with
    | false =>
      simp only [g_Tick___init__, N_Tick___init__, bodyM, startD, sSeq, sIfS, sB, sNot, sNotV, sAnd, sAndT, sOrT, sOp, sVar, sC, sRet, sExpr, sSet, sAsg, sPar, sAug, sCons, sNil, sTup, sLst, sCall, sCB, fb1, ↓RL.bind_m, R.ofO_some, R.ofO_none, R.ofO, List.map_cons, List.map_nil, List.length_cons, List.length_nil, List.cons_append, List.nil_append, List.append_nil, List.replicate, List.set_cons_zero, List.set_cons_succ, List.getElem?_cons_zero, List.getElem?_cons_succ, Option.bind_some, Option.map_some, Option.bind_none, Option.map_none, if_true, if_false, Bool.false_eq_true, decide_true, decide_false, Nat.reduceAdd, Nat.reduceSub, Bool.not_true, Bool.not_false, sIf, sYes, sNext, sBad, tgName, tgTup, tgCons, tgNil, tupOf, seqOf, lstOf, ↓reduceIte, Nat.zero_le, Nat.reduceLeDiff, sFor, sItET, z1, gLen, List.length_map, fGt, fI, hlen, sIsi, tyD, show tab_bool.lookup (.b "bool") = some true from rfl, sNewF, gTuple, hc, last_set rfl, hw, List.not_mem_nil, not_false_eq_true, and_self, Nat.reduceLT, List.mem_singleton, show ¬ ("mute" : Str) = "sums" from by decide]
      rw [fin_nxL (by simp)]
    | true =>
      have hq : (l.map fun s => decide ((0 : Int) ∈ s)).any id = false := by
        cases q : (l.map fun s => decide ((0 : Int) ∈ s)).any id
        · rfl
        · cases hany q
      simp only [g_Tick___init__, N_Tick___init__, bodyM, startD, sSeq, sIfS, sB, sNot, sNotV, sAnd, sAndT, sOrT, sOp, sVar, sC, sRet, sExpr, sSet, sAsg, sPar, sAug, sCons, sNil, sTup, sLst, sCall, sCB, fb1, ↓RL.bind_m, R.ofO_some, R.ofO_none, R.ofO, List.map_cons, List.map_nil, List.length_cons, List.length_nil, List.cons_append, List.nil_append, List.append_nil, List.replicate, List.set_cons_zero, List.set_cons_succ, List.getElem?_cons_zero, List.getElem?_cons_succ, Option.bind_some, Option.map_some, Option.bind_none, Option.map_none, if_true, if_false, Bool.false_eq_true, decide_true, decide_false, Nat.reduceAdd, Nat.reduceSub, Bool.not_true, Bool.not_false, sIf, sYes, sNext, sBad, tgName, tgTup, tgCons, tgNil, tupOf, seqOf, lstOf, ↓reduceIte, Nat.zero_le, Nat.reduceLeDiff, sFor, sItET, z1, gLen, List.length_map, fGt, fI, hlen, sIsi, tyD, show tab_bool.lookup (.b "bool") = some true from rfl, sLc, sLcG, fzL, sItT, z2, gAny, bls_of, hq, sNewF, gTuple, hc, last_set rfl, hw, List.not_mem_nil, not_false_eq_true, and_self, Nat.reduceLT, List.mem_singleton, show ¬ ("mute" : Str) = "sums" from by decide]
      rw [fin_nxL (by simp)]
  unfold mkR
  simp only [hm, R.bind_ok, Bool.false_eq_true, if_false]
  refine frz_app ?_ (by simp)
  simp only [frzD, Nat.lt_irrefl, if_false, last_get rfl, belows, below, below_numss, Bool.true_and, if_true, oTick]
end
end K81
set_option Elab.async false
set_option linter.all false
set_option maxRecDepth 100000
set_option maxHeartbeats 4000000
namespace K81
open RL PySem L2
section
variable {ws : List Ce}
theorem insT (t : Tk) : insOf ws "Tick" (oTick t) = some ((["sums", "mute"] : List Str), ([.tup (t.2.map dNums), .bl t.1] : List D)) := by simp [insOf, oTick]
theorem insP (ts : List Tk) : insOf ws "Plan" (oPlan ts) = some ((["own_ticks"] : List Str), ([.tup (ts.map oTick)] : List D)) := by simp [insOf, oPlan]
theorem isT (t : Tk) : isIns "Tick" ws (oTick t) = true := by simp [isIns, insT]
theorem isP (ts : List Tk) : isIns "Plan" ws (oPlan ts) = true := by simp [isIns, insP]
theorem tyT (t : Tk) : tyD ws (oTick t) = some (.c "Tick") := rfl
theorem tyP (ts : List Tk) : tyD ws (oPlan ts) = some (.c "Plan") := rfl
theorem ok1 : okI ["sums", "mute"] "sums" 0 = true := by decide
theorem ok2 : okI ["sums", "mute"] "mute" 1 = true := by decide
theorem ok3 : okI ["own_ticks"] "own_ticks" 0 = true := by decide
theorem lkT : tab_Tick.lookup (.c "Tick") = some true := by decide
theorem lkP : tab_Plan.lookup (.c "Plan") = some true := by decide
theorem lk_s : tab_str.lookup (.b "str") = some true := by decide
theorem plan_mk {ts : List Tk} (h0 : ts ≠ []) (h6 : ts.length ≤ 6) : mkR false "Plan" m_Plan___init__ (ts.map oTick) ws = .ok (oPlan ts) ws := by
  have hc : (ws ++ [Ce.ins "Plan" [] []])[ws.length]? = some (.ins "Plan" [] []) := last_get rfl
  obtain ⟨ρ', z1, _, u, v, rfl⟩ := for_fold (src := none) (t := tgTup 2 (tgCons (tgName 2) (tgCons (tgName 3) tgNil))) (body := sIfS (sNot (sB (sIsi tab_Tick (sVar 3)))) (sRaise "BadPlan" ["part"] (sCons (sVar 2) sNil)) sNext)
    (ws := ws ++ [Ce.ins "Plan" [] []]) (all := enumD (ts.map oTick)) trivial
    (fun ds ρ => (∀ d ∈ ds, ∃ (i : Nat) (t : Tk), d = .tup [.int (i : Nat), oTick t]) ∧ ∃ u v, ρ = [some (.cell ws.length), some (.tup (ts.map oTick)), u, v])
    (enumD (ts.map oTick)) [some (.cell ws.length), some (.tup (ts.map oTick)), none, none]
    ⟨by
      intro d hd
      obtain ⟨i, hi, rfl⟩ := List.mem_map.mp hd
      rw [List.mem_range, List.length_map] at hi
      exact ⟨i, ts[i], by simp [hi]⟩, _, _, rfl⟩ (by
      rintro d r ρ ⟨k1, u, v, rfl⟩
      obtain ⟨i, t, rfl⟩ := k1 d (List.mem_cons_self ..)
      refine ⟨_, [some (.cell ws.length), some (.tup (ts.map oTick)), some (.int (i : Nat)), some (oTick t)], rfl, ?_, fun d hd => k1 d (List.mem_cons_of_mem _ hd), _, _, rfl⟩
      simp only [bodyM, startD, sSeq, sIfS, sB, sNot, sNotV, sAnd, sAndT, sOrT, sOp, sVar, sC, sRet, sExpr, sSet, sAsg, sPar, sAug, sCons, sNil, sTup, sLst, sCall, sCB, fb1, ↓RL.bind_m, R.ofO_some, R.ofO_none, R.ofO, List.map_cons, List.map_nil, List.length_cons, List.length_nil, List.cons_append, List.nil_append, List.append_nil, List.replicate, List.set_cons_zero, List.set_cons_succ, List.getElem?_cons_zero, List.getElem?_cons_succ, Option.bind_some, Option.map_some, Option.bind_none, Option.map_none, if_true, if_false, Bool.false_eq_true, decide_true, decide_false, Nat.reduceAdd, Nat.reduceSub, Bool.not_true, Bool.not_false, sIf, sYes, sNext, sBad, tgName, tgTup, tgCons, tgNil, tupOf, seqOf, lstOf, ↓reduceIte, Nat.zero_le, Nat.reduceLeDiff, sIsi, tyT, lkT])
  have h1 : ¬ (6 : Int) < (ts.length : Int) := by omega
  have h2 : ¬ ((ts.length : Int) = 0) := by
    have := List.length_pos_iff.mpr h0
    omega
  have hm : m_Plan___init__ (.cell ws.length :: ts.map oTick) (ws ++ [Ce.ins "Plan" [] []]) = .ok .non (ws ++ [.ins "Plan" ["own_ticks"] [.tup (ts.map oTick)]]) := by
    have hb : 1 + 0 ≤ (D.cell ws.length :: ts.map oTick).length ∧ (D.cell ws.length :: ts.map oTick).length ≤ 100000 := by
      simp
      omega
    have cut : ((D.cell ws.length :: ts.map oTick).take 1 ++ (D.cell ws.length :: ts.map oTick).drop ((D.cell ws.length :: ts.map oTick).length - 0) ++ [.tup (((D.cell ws.length :: ts.map oTick).drop 1).take ((D.cell ws.length :: ts.map oTick).length - 1 - 0))]) = [.cell ws.length, .tup (ts.map oTick)] := by
      have e : (ts.map oTick).take ts.length = ts.map oTick := List.take_of_length_le (by simp)
      have e3 : (ts.map oTick).drop ts.length = [] := List.drop_eq_nil_of_le (by simp)
      simp [e, e3]
    unfold m_Plan___init__ starM
    rw [if_pos hb, cut]
    simp only [g_Plan___init__, N_Plan___init__, bodyM, startD, sSeq, sIfS, sB, sNot, sNotV, sAnd, sAndT, sOrT, sOp, sVar, sC, sRet, sExpr, sSet, sAsg, sPar, sAug, sCons, sNil, sTup, sLst, sCall, sCB, fb1, ↓RL.bind_m, R.ofO_some, R.ofO_none, R.ofO, List.map_cons, List.map_nil, List.length_cons, List.length_nil, List.cons_append, List.nil_append, List.append_nil, List.replicate, List.set_cons_zero, List.set_cons_succ, List.getElem?_cons_zero, List.getElem?_cons_succ, Option.bind_some, Option.map_some, Option.bind_none, Option.map_none, if_true, if_false, Bool.false_eq_true, decide_true, decide_false, Nat.reduceAdd, Nat.reduceSub, Bool.not_true, Bool.not_false, sIf, sYes, sNext, sBad, tgName, tgTup, tgCons, tgNil, tupOf, seqOf, lstOf, ↓reduceIte, Nat.zero_le, Nat.reduceLeDiff, sFor, sItET, z1, gLen, List.length_map, fEqS, scalEq, fGt, fI, h1, h2, sNewF, gTuple, hc, last_set rfl, List.not_mem_nil, not_false_eq_true, and_self, Nat.reduceLT]
    rw [fin_nxL (by simp)]
  unfold mkR
  simp only [hm, R.bind_ok, Bool.false_eq_true, if_false]
  refine frz_app ?_ (by simp)
  simp only [frzD, Nat.lt_irrefl, if_false, last_get rfl, belows, below, below_oTicks, Bool.true_and, if_true, oPlan]
theorem plan_len (ts : List Tk) : m_Plan___len__ [oPlan ts] ws = .ok (.int (ts.length : Nat)) ws := by
  simp only [m_Plan___len__, g_Plan___len__, N_Plan___len__, bodyM, startD, sSeq, sIfS, sB, sNot, sNotV, sAnd, sAndT, sOrT, sOp, sVar, sC, sRet, sExpr, sSet, sAsg, sPar, sAug, sCons, sNil, sTup, sLst, sCall, sCB, fb1, ↓RL.bind_m, R.ofO_some, R.ofO_none, R.ofO, List.map_cons, List.map_nil, List.length_cons, List.length_nil, List.cons_append, List.nil_append, List.append_nil, List.replicate, List.set_cons_zero, List.set_cons_succ, List.getElem?_cons_zero, List.getElem?_cons_succ, Option.bind_some, Option.map_some, Option.bind_none, Option.map_none, if_true, if_false, Bool.false_eq_true, decide_true, decide_false, Nat.reduceAdd, Nat.reduceSub, Bool.not_true, Bool.not_false, sIf, sYes, sNext, sBad, tgName, tgTup, tgCons, tgNil, tupOf, seqOf, lstOf, ↓reduceIte, Nat.zero_le, Nat.reduceLeDiff, sAttr, insP, ok3, gLen, List.length_map, fin_rt]
theorem atI_map {α β : Type} (f : α → β) (l : List α) (i : Nat) (h : i < l.length) : atI (l.map f) (i : Nat) = some (f l[i]) := by
  simp [atI, ixN, h]
theorem plan_get {ts : List Tk} {i : Nat} (h : i < ts.length) : m_Plan___getitem__ [oPlan ts, .int (i : Nat)] ws = .ok (oTick ts[i]) ws := by
  have h1 : (i : Int) ≤ (ts.length : Int) - 1 := by omega
  have h2 : (0 : Int) ≤ (i : Int) := by omega
  simp only [m_Plan___getitem__, g_Plan___getitem__, N_Plan___getitem__, bodyM, startD, sSeq, sIfS, sB, sNot, sNotV, sAnd, sAndT, sOrT, sOp, sVar, sC, sRet, sExpr, sSet, sAsg, sPar, sAug, sCons, sNil, sTup, sLst, sCall, sCB, fb1, ↓RL.bind_m, R.ofO_some, R.ofO_none, R.ofO, List.map_cons, List.map_nil, List.length_cons, List.length_nil, List.cons_append, List.nil_append, List.append_nil, List.replicate, List.set_cons_zero, List.set_cons_succ, List.getElem?_cons_zero, List.getElem?_cons_succ, Option.bind_some, Option.map_some, Option.bind_none, Option.map_none, if_true, if_false, Bool.false_eq_true, decide_true, decide_false, Nat.reduceAdd, Nat.reduceSub, Bool.not_true, Bool.not_false, sIf, sYes, sNext, sBad, tgName, tgTup, tgCons, tgNil, tupOf, seqOf, lstOf, ↓reduceIte, Nat.zero_le, Nat.reduceLeDiff, sAttr, insP, ok3, gLen, List.length_map, fSub, fI, is_within, h1, h2, Bool.and_self, fIx, atI_map oTick ts i h, fin_rt]
theorem plan_with {ts : List Tk} {t : Tk} {i : Nat} (h : i < ts.length) (h6 : ts.length ≤ 6) : m_Plan_with_phase [oPlan ts, .int (i : Nat), oTick t] ws = .ok (oPlan (ts.set i t)) ws := by
  have h1 : (i : Int) ≤ (ts.length : Int) - 1 := by omega
  have h2 : (0 : Int) ≤ (i : Int) := by omega
  have z := lc_map (src := none) (t := tgTup 2 (tgCons (tgName 4) (tgCons (tgName 5) tgNil))) (el := sIf (sB (sOp fEqS (sVar 4) (sVar 1))) (sVar 2) (sVar 5)) (ρ := wipeD [some (oPlan ts), some (.int (i : Nat)), some (oTick t), none, none, none] [4, 5])
    (f := fun d => match d with
      | .tup [.int k, x] => if k = (i : Int) then oTick t else x
      | _ => .non) (ws := ws) (all := enumD (ts.map oTick)) trivial (enumD (ts.map oTick)) [] (by simp [enumD_len]; omega) (by
    intro d hd
    obtain ⟨k, hk, rfl⟩ := List.mem_map.mp hd
    refine ⟨_, rfl, ?_⟩
    by_cases e : (k : Int) = (i : Int)
    · simp only [wipeD, bodyM, startD, sSeq, sIfS, sB, sNot, sNotV, sAnd, sAndT, sOrT, sOp, sVar, sC, sRet, sExpr, sSet, sAsg, sPar, sAug, sCons, sNil, sTup, sLst, sCall, sCB, fb1, ↓RL.bind_m, R.ofO_some, R.ofO_none, R.ofO, List.map_cons, List.map_nil, List.length_cons, List.length_nil, List.cons_append, List.nil_append, List.append_nil, List.replicate, List.set_cons_zero, List.set_cons_succ, List.getElem?_cons_zero, List.getElem?_cons_succ, Option.bind_some, Option.map_some, Option.bind_none, Option.map_none, if_true, if_false, Bool.false_eq_true, decide_true, decide_false, Nat.reduceAdd, Nat.reduceSub, Bool.not_true, Bool.not_false, sIf, sYes, sNext, sBad, tgName, tgTup, tgCons, tgNil, tupOf, seqOf, lstOf, ↓reduceIte, Nat.zero_le, Nat.reduceLeDiff, fEqS, scalEq, e]
    · simp only [wipeD, bodyM, startD, sSeq, sIfS, sB, sNot, sNotV, sAnd, sAndT, sOrT, sOp, sVar, sC, sRet, sExpr, sSet, sAsg, sPar, sAug, sCons, sNil, sTup, sLst, sCall, sCB, fb1, ↓RL.bind_m, R.ofO_some, R.ofO_none, R.ofO, List.map_cons, List.map_nil, List.length_cons, List.length_nil, List.cons_append, List.nil_append, List.append_nil, List.replicate, List.set_cons_zero, List.set_cons_succ, List.getElem?_cons_zero, List.getElem?_cons_succ, Option.bind_some, Option.map_some, Option.bind_none, Option.map_none, if_true, if_false, Bool.false_eq_true, decide_true, decide_false, Nat.reduceAdd, Nat.reduceSub, Bool.not_true, Bool.not_false, sIf, sYes, sNext, sBad, tgName, tgTup, tgCons, tgNil, tupOf, seqOf, lstOf, ↓reduceIte, Nat.zero_le, Nat.reduceLeDiff, fEqS, scalEq, e])
  have e2 : ((enumD (ts.map oTick)).map fun d => match d with
      | .tup [.int k, x] => if k = (i : Int) then oTick t else x
      | _ => .non) = (ts.set i t).map oTick := by
    apply List.ext_getElem
    · simp [enumD]
    · intro k hk1 hk2
      simp only [List.length_map, List.length_set] at hk2
      simp only [enumD, List.getElem_map, List.getElem_range, List.getElem_set]
      by_cases e : k = i
      · subst e; simp
      · have e' : ¬ i = k := fun q => e q.symm
        have e'' : ¬ (k : Int) = (i : Int) := by omega
        simp [e', e'', hk2, e]
  rw [List.nil_append, e2] at z
  have m1 : mkR false "Plan" m_Plan___init__ ((ts.set i t).map oTick) ws = .ok (oPlan (ts.set i t)) ws := plan_mk (by
    intro q
    have := congrArg List.length q
    simp at this
    subst this
    simp at h) (by simpa using h6)
  simp only [m_Plan_with_phase, g_Plan_with_phase, N_Plan_with_phase, bodyM, startD, sSeq, sIfS, sB, sNot, sNotV, sAnd, sAndT, sOrT, sOp, sVar, sC, sRet, sExpr, sSet, sAsg, sPar, sAug, sCons, sNil, sTup, sLst, sCall, sCB, fb1, ↓RL.bind_m, R.ofO_some, R.ofO_none, R.ofO, List.map_cons, List.map_nil, List.length_cons, List.length_nil, List.cons_append, List.nil_append, List.append_nil, List.replicate, List.set_cons_zero, List.set_cons_succ, List.getElem?_cons_zero, List.getElem?_cons_succ, Option.bind_some, Option.map_some, Option.bind_none, Option.map_none, if_true, if_false, Bool.false_eq_true, decide_true, decide_false, Nat.reduceAdd, Nat.reduceSub, Bool.not_true, Bool.not_false, sIf, sYes, sNext, sBad, tgName, tgTup, tgCons, tgNil, tupOf, seqOf, lstOf, ↓reduceIte, Nat.zero_le, Nat.reduceLeDiff, sAttr, insP, ok3, gLen, List.length_map, fSub, fI, is_within, h1, h2, Bool.and_self, sIsi, tyT, lkT, sLc, sLcG, fzL, sItET, z, sMkS, m1, fin_rt]
theorem plan_of {ts : List Tk} (h0 : ts ≠ []) (h6 : ts.length ≤ 6) : m_plan_of [.lst (ts.map oTick)] ws = .ok (oPlan ts) ws := by
  simp only [m_plan_of, g_plan_of, N_plan_of, bodyM, startD, sSeq, sIfS, sB, sNot, sNotV, sAnd, sAndT, sOrT, sOp, sVar, sC, sRet, sExpr, sSet, sAsg, sPar, sAug, sCons, sNil, sTup, sLst, sCall, sCB, fb1, ↓RL.bind_m, R.ofO_some, R.ofO_none, R.ofO, List.map_cons, List.map_nil, List.length_cons, List.length_nil, List.cons_append, List.nil_append, List.append_nil, List.replicate, List.set_cons_zero, List.set_cons_succ, List.getElem?_cons_zero, List.getElem?_cons_succ, Option.bind_some, Option.map_some, Option.bind_none, Option.map_none, if_true, if_false, Bool.false_eq_true, decide_true, decide_false, Nat.reduceAdd, Nat.reduceSub, Bool.not_true, Bool.not_false, sIf, sYes, sNext, sBad, tgName, tgTup, tgCons, tgNil, tupOf, seqOf, lstOf, ↓reduceIte, Nat.zero_le, Nat.reduceLeDiff, sMkS, plan_mk h0 h6, fin_rt]
theorem plan_ofC {ts : List Tk} {q : Nat} (hq : ws[q]? = some (.lst (ts.map oTick))) (h0 : ts ≠ []) (h6 : ts.length ≤ 6) : m_plan_of [.cell q] ws = .ok (oPlan ts) ws := by
  simp only [m_plan_of, g_plan_of, N_plan_of, bodyM, startD, sSeq, sIfS, sB, sNot, sNotV, sAnd, sAndT, sOrT, sOp, sVar, sC, sRet, sExpr, sSet, sAsg, sPar, sAug, sCons, sNil, sTup, sLst, sCall, sCB, fb1, ↓RL.bind_m, R.ofO_some, R.ofO_none, R.ofO, List.map_cons, List.map_nil, List.length_cons, List.length_nil, List.cons_append, List.nil_append, List.append_nil, List.replicate, List.set_cons_zero, List.set_cons_succ, List.getElem?_cons_zero, List.getElem?_cons_succ, Option.bind_some, Option.map_some, Option.bind_none, Option.map_none, if_true, if_false, Bool.false_eq_true, decide_true, decide_false, Nat.reduceAdd, Nat.reduceSub, Bool.not_true, Bool.not_false, sIf, sYes, sNext, sBad, tgName, tgTup, tgCons, tgNil, tupOf, seqOf, lstOf, ↓reduceIte, Nat.zero_le, Nat.reduceLeDiff, hq, sMkS, plan_mk h0 h6, fin_rt]
theorem need_tick (t : Tk) : m_need_tick [oTick t] ws = .ok .non ws := by
  simp only [m_need_tick, g_need_tick, N_need_tick, bodyM, startD, sSeq, sIfS, sB, sNot, sNotV, sAnd, sAndT, sOrT, sOp, sVar, sC, sRet, sExpr, sSet, sAsg, sPar, sAug, sCons, sNil, sTup, sLst, sCall, sCB, fb1, ↓RL.bind_m, R.ofO_some, R.ofO_none, R.ofO, List.map_cons, List.map_nil, List.length_cons, List.length_nil, List.cons_append, List.nil_append, List.append_nil, List.replicate, List.set_cons_zero, List.set_cons_succ, List.getElem?_cons_zero, List.getElem?_cons_succ, Option.bind_some, Option.map_some, Option.bind_none, Option.map_none, if_true, if_false, Bool.false_eq_true, decide_true, decide_false, Nat.reduceAdd, Nat.reduceSub, Bool.not_true, Bool.not_false, sIf, sYes, sNext, sBad, tgName, tgTup, tgCons, tgNil, tupOf, seqOf, lstOf, ↓reduceIte, Nat.zero_le, Nat.reduceLeDiff, sIsi, tyT, lkT, fin_nx]
theorem need_plan (ts : List Tk) : m_need_plan [oPlan ts] ws = .ok .non ws := by
  simp only [m_need_plan, g_need_plan, N_need_plan, bodyM, startD, sSeq, sIfS, sB, sNot, sNotV, sAnd, sAndT, sOrT, sOp, sVar, sC, sRet, sExpr, sSet, sAsg, sPar, sAug, sCons, sNil, sTup, sLst, sCall, sCB, fb1, ↓RL.bind_m, R.ofO_some, R.ofO_none, R.ofO, List.map_cons, List.map_nil, List.length_cons, List.length_nil, List.cons_append, List.nil_append, List.append_nil, List.replicate, List.set_cons_zero, List.set_cons_succ, List.getElem?_cons_zero, List.getElem?_cons_succ, Option.bind_some, Option.map_some, Option.bind_none, Option.map_none, if_true, if_false, Bool.false_eq_true, decide_true, decide_false, Nat.reduceAdd, Nat.reduceSub, Bool.not_true, Bool.not_false, sIf, sYes, sNext, sBad, tgName, tgTup, tgCons, tgNil, tupOf, seqOf, lstOf, ↓reduceIte, Nat.zero_le, Nat.reduceLeDiff, sIsi, tyP, lkP, fin_nx]
theorem tick_add {t : Tk} {s : List Int} (h : Gt (t.1, t.2 ++ [s])) : m_Tick___add__ [oTick t, dNums s] ws = .ok (oTick (t.1, t.2 ++ [s])) ws := by
  have hl : (t.2.map dNums ++ [dNums s]).length ≤ 100000 := by
    have := h.2.2
    simp at this ⊢
    omega
  have m1 := tick_mk (ws := ws) h
  simp only [List.map_append, List.map_cons, List.map_nil] at m1
  simp only [m_Tick___add__, g_Tick___add__, N_Tick___add__, bodyM, startD, sSeq, sIfS, sB, sNot, sNotV, sAnd, sAndT, sOrT, sOp, sVar, sC, sRet, sExpr, sSet, sAsg, sPar, sAug, sCons, sNil, sTup, sLst, sCall, sCB, fb1, ↓RL.bind_m, R.ofO_some, R.ofO_none, R.ofO, List.map_cons, List.map_nil, List.length_cons, List.length_nil, List.cons_append, List.nil_append, List.append_nil, List.replicate, List.set_cons_zero, List.set_cons_succ, List.getElem?_cons_zero, List.getElem?_cons_succ, Option.bind_some, Option.map_some, Option.bind_none, Option.map_none, if_true, if_false, Bool.false_eq_true, decide_true, decide_false, Nat.reduceAdd, Nat.reduceSub, Bool.not_true, Bool.not_false, sIf, sYes, sNext, sBad, tgName, tgTup, tgCons, tgNil, tupOf, seqOf, lstOf, ↓reduceIte, Nat.zero_le, Nat.reduceLeDiff, sStar, sAttr, insT, ok1, ok2, hl, sMkS, m1, fin_rt]
theorem Gt.filter {t : Tk} (h : Gt t) (s : List Int) : Gt (t.1, t.2.filter fun x => !decide (x = s)) := by
  refine ⟨fun x hx => h.1 x (List.mem_filter.mp hx).1, h.2.1.sublist List.filter_sublist, Nat.le_trans (List.length_filter_le ..) h.2.2⟩
theorem tick_sub {t : Tk} {s : List Int} (h : Gt t) (hs : s ∈ t.2) : m_Tick___sub__ [oTick t, dNums s] ws = .ok (oTick (t.1, t.2.filter fun x => !decide (x = s))) ws := by
  have hl : t.2.length ≤ 6 := h.2.2
  have z := lc_filt (src := none) (t := tgName 3) (c := sB (sOp fNeD (sVar 3) (sVar 1))) (el := sVar 3) (ρ := wipeD [some (oTick t), some (dNums s), none, none] [3]) (f := fun d => d)
    (p := fun d => !decide (d = dNums s)) (ws := ws) (all := t.2.map dNums) trivial (t.2.map dNums) [] (by simp; omega) (by
    intro d hd
    obtain ⟨x, hx, rfl⟩ := List.mem_map.mp hd
    have e : decide (dNums x = dNums s) = decide (x = s) := by
      apply decide_eq_decide.mpr
      constructor
      · intro q
        simp only [dNums, D.tup.injEq] at q
        have := List.map_inj_right (f := D.int) (by intro a b h; cases h; rfl) |>.mp q
        exact this
      · rintro rfl; rfl
    refine ⟨_, rfl, ?_, ?_⟩
    · simp only [wipeD, bodyM, startD, sSeq, sIfS, sB, sNot, sNotV, sAnd, sAndT, sOrT, sOp, sVar, sC, sRet, sExpr, sSet, sAsg, sPar, sAug, sCons, sNil, sTup, sLst, sCall, sCB, fb1, ↓RL.bind_m, R.ofO_some, R.ofO_none, R.ofO, List.map_cons, List.map_nil, List.length_cons, List.length_nil, List.cons_append, List.nil_append, List.append_nil, List.replicate, List.set_cons_zero, List.set_cons_succ, List.getElem?_cons_zero, List.getElem?_cons_succ, Option.bind_some, Option.map_some, Option.bind_none, Option.map_none, if_true, if_false, Bool.false_eq_true, decide_true, decide_false, Nat.reduceAdd, Nat.reduceSub, Bool.not_true, Bool.not_false, sIf, sYes, sNext, sBad, tgName, tgTup, tgCons, tgNil, tupOf, seqOf, lstOf, ↓reduceIte, Nat.zero_le, Nat.reduceLeDiff, ne_nums, e]
    · simp only [wipeD, bodyM, startD, sSeq, sIfS, sB, sNot, sNotV, sAnd, sAndT, sOrT, sOp, sVar, sC, sRet, sExpr, sSet, sAsg, sPar, sAug, sCons, sNil, sTup, sLst, sCall, sCB, fb1, ↓RL.bind_m, R.ofO_some, R.ofO_none, R.ofO, List.map_cons, List.map_nil, List.length_cons, List.length_nil, List.cons_append, List.nil_append, List.append_nil, List.replicate, List.set_cons_zero, List.set_cons_succ, List.getElem?_cons_zero, List.getElem?_cons_succ, Option.bind_some, Option.map_some, Option.bind_none, Option.map_none, if_true, if_false, Bool.false_eq_true, decide_true, decide_false, Nat.reduceAdd, Nat.reduceSub, Bool.not_true, Bool.not_false, sIf, sYes, sNext, sBad, tgName, tgTup, tgCons, tgNil, tupOf, seqOf, lstOf, ↓reduceIte, Nat.zero_le, Nat.reduceLeDiff])
  have e2 : ((t.2.map dNums).filter fun d => !decide (d = dNums s)).map (fun d => d) = (t.2.filter fun x => !decide (x = s)).map dNums := by
    rw [List.map_id', List.filter_map]
    congr 1
    apply List.filter_congr
    intro x _
    have e : decide (dNums x = dNums s) = decide (x = s) := by
      apply decide_eq_decide.mpr
      constructor
      · intro q
        simp only [dNums, D.tup.injEq] at q
        exact List.map_inj_right (f := D.int) (by intro a b h; cases h; rfl) |>.mp q
      · rintro rfl; rfl
    simp only [Function.comp, e]
  rw [List.nil_append, e2] at z
  have m1 := tick_mk (ws := ws) (h.filter s)
  simp only at m1
  have hc : m_Tick___contains__ [oTick t, dNums s] ws = .ok (.bl true) ws := by
    simp only [m_Tick___contains__, g_Tick___contains__, N_Tick___contains__, bodyM, startD, sSeq, sIfS, sB, sNot, sNotV, sAnd, sAndT, sOrT, sOp, sVar, sC, sRet, sExpr, sSet, sAsg, sPar, sAug, sCons, sNil, sTup, sLst, sCall, sCB, fb1, ↓RL.bind_m, R.ofO_some, R.ofO_none, R.ofO, List.map_cons, List.map_nil, List.length_cons, List.length_nil, List.cons_append, List.nil_append, List.append_nil, List.replicate, List.set_cons_zero, List.set_cons_succ, List.getElem?_cons_zero, List.getElem?_cons_succ, Option.bind_some, Option.map_some, Option.bind_none, Option.map_none, if_true, if_false, Bool.false_eq_true, decide_true, decide_false, Nat.reduceAdd, Nat.reduceSub, Bool.not_true, Bool.not_false, sIf, sYes, sNext, sBad, tgName, tgTup, tgCons, tgNil, tupOf, seqOf, lstOf, ↓reduceIte, Nat.zero_le, Nat.reduceLeDiff, is_sum (h.1 s hs), sAttr, insT, ok1, inT_numss, hs, fin_rt]
  simp only [m_Tick___sub__, g_Tick___sub__, N_Tick___sub__, bodyM, startD, sSeq, sIfS, sB, sNot, sNotV, sAnd, sAndT, sOrT, sOp, sVar, sC, sRet, sExpr, sSet, sAsg, sPar, sAug, sCons, sNil, sTup, sLst, sCall, sCB, fb1, ↓RL.bind_m, R.ofO_some, R.ofO_none, R.ofO, List.map_cons, List.map_nil, List.length_cons, List.length_nil, List.cons_append, List.nil_append, List.append_nil, List.replicate, List.set_cons_zero, List.set_cons_succ, List.getElem?_cons_zero, List.getElem?_cons_succ, Option.bind_some, Option.map_some, Option.bind_none, Option.map_none, if_true, if_false, Bool.false_eq_true, decide_true, decide_false, Nat.reduceAdd, Nat.reduceSub, Bool.not_true, Bool.not_false, sIf, sYes, sNext, sBad, tgName, tgTup, tgCons, tgNil, tupOf, seqOf, lstOf, ↓reduceIte, Nat.zero_le, Nat.reduceLeDiff, sOwnIn, isT, hc, sAttr, insT, ok1, ok2, sLc, sLcG, fzL, sItT, z, sMkS, m1, fin_rt]
end
end K81
set_option Elab.async false
set_option linter.all false
set_option maxRecDepth 100000
set_option maxHeartbeats 4000000
namespace K81
open RL PySem L2
/-- turned by k -/
def rot {α : Type} (l : List α) (k : Nat) : List α := l.drop k ++ l.take k
theorem rot_len {α : Type} (l : List α) (k : Nat) (h : k ≤ l.length) : (rot l k).length = l.length := by
  simp [rot]
  omega
theorem rot_get {α : Type} (l : List α) (k i : Nat) (h : k < l.length) (hi : i < l.length) : (rot l k)[i]? = l[(i + k) % l.length]? := by
  unfold rot
  by_cases e : i < l.length - k
  · rw [List.getElem?_append_left (by simpa using e), List.getElem?_drop, Nat.mod_eq_of_lt (by omega), Nat.add_comm]
  · rw [List.getElem?_append_right (by simpa using e), List.length_drop, List.getElem?_take, if_pos (by omega)]
    have : (i + k) % l.length = i + k - l.length := by
      rw [Nat.mod_eq_sub_mod (by omega), Nat.mod_eq_of_lt (by omega)]
    rw [this]
    congr 1
    omega
section
variable {ws : List Ce}
theorem plan_turn {ts : List Tk} {n : Int} (h0 : ts ≠ []) (h6 : ts.length ≤ 6) (hn : 0 ≤ n) : m_Plan___rshift__ [oPlan ts, .int n] ws = .ok (oPlan (rot ts (n % (ts.length : Int)).toNat)) ws := by
  have hl : 0 < ts.length := List.length_pos_iff.mpr h0
  have hl2 : (0 : Int) < (ts.length : Int) := by omega
  have k1 := Int.emod_nonneg n (b := (ts.length : Int)) (by omega)
  have k2 := Int.emod_lt_of_pos n hl2
  have hk : (n % (ts.length : Int)).toNat < ts.length := by omega
  have z := lc_map (src := none) (t := tgName 3) (el := sOp fIx (sAttr "Plan" "own_ticks" 0 (sVar 0)) (sOp fMod (sOp fAdd (sVar 3) (sCB (fb1 gInt) (sCons (sVar 1) sNil))) (sCB (fb1 gLen) (sCons (sAttr "Plan" "own_ticks" 0 (sVar 0)) sNil)))) (ρ := wipeD [some (oPlan ts), some (.int n), none, none] [3])
    (f := fun d => match d with
      | .int k => (atI (ts.map oTick) ((k + n) % (ts.length : Int))).getD .non
      | _ => .non) (ws := ws) (all := intsD 0 ts.length) trivial (intsD 0 ts.length) [] (by simp [intsD_len]; omega) (by
    intro d hd
    obtain ⟨k, hk, rfl⟩ := List.mem_map.mp hd
    rw [List.mem_range] at hk
    have k3 := Int.emod_nonneg (0 + (k : Int) + n) (b := (ts.length : Int)) (by omega)
    have k4 := Int.emod_lt_of_pos (0 + (k : Int) + n) hl2
    obtain ⟨x, hx, _⟩ := atI_mem (l := ts.map oTick) k3 (by simpa using k4)
    refine ⟨_, rfl, ?_⟩
    simp only [wipeD, bodyM, startD, sSeq, sIfS, sB, sNot, sNotV, sAnd, sAndT, sOrT, sOp, sVar, sC, sRet, sExpr, sSet, sAsg, sPar, sAug, sCons, sNil, sTup, sLst, sCall, sCB, fb1, ↓RL.bind_m, R.ofO_some, R.ofO_none, R.ofO, List.map_cons, List.map_nil, List.length_cons, List.length_nil, List.cons_append, List.nil_append, List.append_nil, List.replicate, List.set_cons_zero, List.set_cons_succ, List.getElem?_cons_zero, List.getElem?_cons_succ, Option.bind_some, Option.map_some, Option.bind_none, Option.map_none, if_true, if_false, Bool.false_eq_true, decide_true, decide_false, Nat.reduceAdd, Nat.reduceSub, Bool.not_true, Bool.not_false, sIf, sYes, sNext, sBad, tgName, tgTup, tgCons, tgNil, tupOf, seqOf, lstOf, ↓reduceIte, Nat.zero_le, Nat.reduceLeDiff, sAttr, insP, ok3, fAdd, fI, gInt, gLen, List.length_map, fMod, hl2, fIx, hx, Option.getD_some])
  have e2 : ((intsD 0 ts.length).map fun d => match d with
      | .int k => (atI (ts.map oTick) ((k + n) % (ts.length : Int))).getD .non
      | _ => .non) = (rot ts (n % (ts.length : Int)).toNat).map oTick := by
    apply List.ext_getElem?
    intro i
    by_cases hi : i < ts.length
    · rw [List.getElem?_map, intsD_get hi, List.getElem?_map, rot_get _ _ _ hk hi]
      have e3 : (0 + (i : Int) + n) % (ts.length : Int) = (((i + (n % (ts.length : Int)).toNat) % ts.length : Nat) : Int) := by
        rw [Int.natCast_emod, Int.natCast_add, Int.toNat_of_nonneg k1, Int.add_emod_emod]
        congr 1
        omega
      have e4 : (i + (n % (ts.length : Int)).toNat) % ts.length < ts.length := Nat.mod_lt _ hl
      simp only [Option.map_some, e3, atI_map oTick ts _ e4, Option.getD_some, List.getElem?_eq_getElem e4]
    · rw [List.getElem?_eq_none (by simp [intsD_len]; omega), List.getElem?_eq_none (by rw [List.length_map, rot_len _ _ (by omega)]; omega)]
  rw [List.nil_append, e2] at z
  have m1 : mkR false "Plan" m_Plan___init__ ((rot ts (n % (ts.length : Int)).toNat).map oTick) ws = .ok (oPlan (rot ts (n % (ts.length : Int)).toNat)) ws := plan_mk (by
    intro q
    have := congrArg List.length q
    rw [rot_len _ _ (by omega)] at this
    simp at this
    exact h0 this) (by rw [rot_len _ _ (by omega)]; exact h6)
  have hn2 : ¬ n < 0 := by omega
  have q1 : (-1000000 : Int) ≤ (ts.length : Int) ∧ (ts.length : Int) ≤ 1000000 := by omega
  simp only [m_Plan___rshift__, g_Plan___rshift__, N_Plan___rshift__, bodyM, startD, sSeq, sIfS, sB, sNot, sNotV, sAnd, sAndT, sOrT, sOp, sVar, sC, sRet, sExpr, sSet, sAsg, sPar, sAug, sCons, sNil, sTup, sLst, sCall, sCB, fb1, ↓RL.bind_m, R.ofO_some, R.ofO_none, R.ofO, List.map_cons, List.map_nil, List.length_cons, List.length_nil, List.cons_append, List.nil_append, List.append_nil, List.replicate, List.set_cons_zero, List.set_cons_succ, List.getElem?_cons_zero, List.getElem?_cons_succ, Option.bind_some, Option.map_some, Option.bind_none, Option.map_none, if_true, if_false, Bool.false_eq_true, decide_true, decide_false, Nat.reduceAdd, Nat.reduceSub, Bool.not_true, Bool.not_false, sIf, sYes, sNext, sBad, tgName, tgTup, tgCons, tgNil, tupOf, seqOf, lstOf, ↓reduceIte, Nat.zero_le, Nat.reduceLeDiff, is_int, fLt, fI, hn2, sAttr, insP, ok3, gLen, List.length_map, sLc, sLcG, fzL, sItR1, q1, and_self, Int.toNat_natCast, z, sMkS, m1, fin_rt]
theorem nums_inj : ∀ {a b : List (List Int)}, a.map dNums = b.map dNums → a = b := by
  intro a b h
  refine List.map_inj_right (f := dNums) (fun x y q => ?_) |>.mp h
  simp only [dNums, D.tup.injEq] at q
  exact List.map_inj_right (f := D.int) (by intro a b h; cases h; rfl) |>.mp q
theorem tick_eq (a b : Tk) : m_Tick___eq__ [oTick a, oTick b] ws = .ok (.bl (decide (a = b))) ws := by
  obtain ⟨m, k⟩ := a
  obtain ⟨n, l⟩ := b
  by_cases e : k = l
  · subst e
    have : decide ((m, k) = (n, k)) = decide (m = n) := by
      apply decide_eq_decide.mpr
      simp
    simp only [m_Tick___eq__, g_Tick___eq__, N_Tick___eq__, bodyM, startD, sSeq, sIfS, sB, sNot, sNotV, sAnd, sAndT, sOrT, sOp, sVar, sC, sRet, sExpr, sSet, sAsg, sPar, sAug, sCons, sNil, sTup, sLst, sCall, sCB, fb1, ↓RL.bind_m, R.ofO_some, R.ofO_none, R.ofO, List.map_cons, List.map_nil, List.length_cons, List.length_nil, List.cons_append, List.nil_append, List.append_nil, List.replicate, List.set_cons_zero, List.set_cons_succ, List.getElem?_cons_zero, List.getElem?_cons_succ, Option.bind_some, Option.map_some, Option.bind_none, Option.map_none, if_true, if_false, Bool.false_eq_true, decide_true, decide_false, Nat.reduceAdd, Nat.reduceSub, Bool.not_true, Bool.not_false, sIf, sYes, sNext, sBad, tgName, tgTup, tgCons, tgNil, tupOf, seqOf, lstOf, ↓reduceIte, Nat.zero_le, Nat.reduceLeDiff, sIsi, tyT, lkT, sAttr, insT, ok1, ok2, eq_numssT, fEqS, scalEq, fin_rt, this]
  · have : decide ((m, k) = (n, l)) = false := by
      apply decide_eq_false
      intro q
      exact e (Prod.mk.inj q).2
    simp only [m_Tick___eq__, g_Tick___eq__, N_Tick___eq__, bodyM, startD, sSeq, sIfS, sB, sNot, sNotV, sAnd, sAndT, sOrT, sOp, sVar, sC, sRet, sExpr, sSet, sAsg, sPar, sAug, sCons, sNil, sTup, sLst, sCall, sCB, fb1, ↓RL.bind_m, R.ofO_some, R.ofO_none, R.ofO, List.map_cons, List.map_nil, List.length_cons, List.length_nil, List.cons_append, List.nil_append, List.append_nil, List.replicate, List.set_cons_zero, List.set_cons_succ, List.getElem?_cons_zero, List.getElem?_cons_succ, Option.bind_some, Option.map_some, Option.bind_none, Option.map_none, if_true, if_false, Bool.false_eq_true, decide_true, decide_false, Nat.reduceAdd, Nat.reduceSub, Bool.not_true, Bool.not_false, sIf, sYes, sNext, sBad, tgName, tgTup, tgCons, tgNil, tupOf, seqOf, lstOf, ↓reduceIte, Nat.zero_le, Nat.reduceLeDiff, sIsi, tyT, lkT, sAttr, insT, ok1, ok2, eq_numssT, e, fin_rt, this]
theorem q_tick (a b : Tk) : qOne "Tick" (qIns "Tick" "Tick" m_Tick___eq__) (oTick a) (oTick b) ws = some (decide (a = b)) := by
  have h1 : qIns "Tick" "Tick" m_Tick___eq__ (oTick a) (oTick b) ws = some (decide (a = b)) := by
    simp only [qIns, insT, Option.isSome_some, and_self, if_true, tick_eq]
  have h2 : ∀ t : Tk, (toPys0 [.tup (t.2.map dNums), .bl t.1]).isSome = true := by
    intro t
    simp [toPys0, toPy0, py_numss]
  unfold qOne
  show (if ("Tick" : Str) = "Tick" ∧ ("Tick" : Str) = "Tick" ∧ _ ∧ _ then (qIns "Tick" "Tick" m_Tick___eq__ (oTick a) (oTick b) ws).bind _ else none) = _
  rw [if_pos ⟨rfl, rfl, h2 a, h2 b⟩, h1, Option.bind_some]
  by_cases e : a = b
  · simp [e]
  · rw [if_neg]
    rintro ⟨_, q, _⟩
    simp only [List.cons.injEq, D.tup.injEq, D.bl.injEq, and_true] at q
    exact e (Prod.ext q.2 (nums_inj q.1))
theorem q_ticks : ∀ a b : List Tk, qAll (qOne "Tick" (qIns "Tick" "Tick" m_Tick___eq__)) ws (a.map oTick) (b.map oTick) = some (decide (a = b))
  | [], [] => rfl
  | [], _ :: _ => rfl
  | _ :: _, [] => rfl
  | a :: l, b :: m => by
    simp only [List.map_cons, qAll, q_tick, q_ticks l m, Option.bind_some, Option.map_some, List.cons.injEq, Bool.decide_and]
theorem plan_eq (a b : List Tk) : m_Plan___eq__ [oPlan a, oPlan b] ws = .ok (.bl (decide (a = b))) ws := by
  simp only [m_Plan___eq__, g_Plan___eq__, N_Plan___eq__, bodyM, startD, sSeq, sIfS, sB, sNot, sNotV, sAnd, sAndT, sOrT, sOp, sVar, sC, sRet, sExpr, sSet, sAsg, sPar, sAug, sCons, sNil, sTup, sLst, sCall, sCB, fb1, ↓RL.bind_m, R.ofO_some, R.ofO_none, R.ofO, List.map_cons, List.map_nil, List.length_cons, List.length_nil, List.cons_append, List.nil_append, List.append_nil, List.replicate, List.set_cons_zero, List.set_cons_succ, List.getElem?_cons_zero, List.getElem?_cons_succ, Option.bind_some, Option.map_some, Option.bind_none, Option.map_none, if_true, if_false, Bool.false_eq_true, decide_true, decide_false, Nat.reduceAdd, Nat.reduceSub, Bool.not_true, Bool.not_false, sIf, sYes, sNext, sBad, tgName, tgTup, tgCons, tgNil, tupOf, seqOf, lstOf, ↓reduceIte, Nat.zero_le, Nat.reduceLeDiff, sIsi, tyP, lkP, sAttr, insP, ok3, fQ, qTup, q_ticks, fin_rt]
theorem q_plan (a b : List Tk) : qIns "Plan" "Plan" m_Plan___eq__ (oPlan a) (oPlan b) ws = some (decide (a = b)) := by
  simp only [qIns, insP, Option.isSome_some, and_self, if_true, plan_eq]
end
end K81
set_option Elab.async false
set_option linter.all false
set_option maxRecDepth 100000
set_option maxHeartbeats 4000000
namespace K81
open RL PySem L2 TL
def num (i : Int) : Str := Str.ofString (toString i)
def sWords (s : List Int) : List Str := s.map num
def sText (s : List Int) : Str := Txt.join " " (sWords s)
def ssText (l : List (List Int)) : Str := if l = [] then "-" else Txt.join " , " (l.map sText)
def tText (t : Tk) : Str := (if t.1 = true then ("mute " : Str) else "") ++ ssText t.2
def pText (ts : List Tk) : Str := Txt.join " / " (ts.map tText)
def inter (w : Str) : List (List Str) → List Str
  | [] => []
  | [a] => a
  | a :: b :: r => a ++ w :: inter w (b :: r)
def ssWords (l : List (List Int)) : List Str := if l = [] then ["-"] else inter "," (l.map sWords)
def tWords (t : Tk) : List Str := (if t.1 = true then [("mute" : Str)] else []) ++ ssWords t.2
def pWords (ts : List Tk) : List Str := inter "/" (ts.map tWords)
theorem app_assoc (a b c : Str) : a ++ b ++ c = a ++ (b ++ c) := ext_tl (by simp only [tl_append, List.append_assoc])
theorem app_len (a b : Str) : (a ++ b).length = a.length + b.length := by
  rw [len_tl, len_tl, len_tl, tl_append, List.length_append]
theorem join_cons (s a b : Str) (r : List Str) : Str.join s (a :: b :: r) = a ++ s ++ Str.join s (b :: r) := rfl
theorem join_app (s : Str) : ∀ a b : List Str, a ≠ [] → b ≠ [] → Str.join s (a ++ b) = Str.join s a ++ s ++ Str.join s b
  | [], _, h, _ => absurd rfl h
  | [x], b :: r, _, _ => rfl
  | [x], [], _, h => absurd rfl h
  | x :: y :: a, b, _, hb => by
    have z := join_app s (y :: a) b (by simp) hb
    rw [List.cons_append, List.cons_append, join_cons, join_cons, ← List.cons_append, z]
    simp only [app_assoc]
theorem inter_ne {w : Str} : ∀ {l : List (List Str)}, l ≠ [] → (∀ a ∈ l, a ≠ []) → inter w l ≠ []
  | [], h, _ => absurd rfl h
  | [a], _, h => h a (by simp)
  | a :: b :: r, _, _ => by simp [inter]
theorem join_inter (w : Str) : ∀ l : List (List Str), l ≠ [] → (∀ a ∈ l, a ≠ []) → Str.join (" " ++ w ++ " ") (l.map (Str.join " ")) = Str.join " " (inter w l)
  | [], h, _ => absurd rfl h
  | [a], _, _ => rfl
  | a :: b :: r, _, h => by
    have hb : ∀ x ∈ b :: r, x ≠ [] := fun x hx => h x (List.mem_cons_of_mem _ hx)
    have z := join_inter w (b :: r) (by simp) hb
    have n := inter_ne (w := w) (l := b :: r) (by simp) hb
    rw [List.map_cons, List.map_cons, join_cons, ← List.map_cons, z]
    show _ = Str.join " " (a ++ w :: inter w (b :: r))
    rw [join_app _ a _ (h a (by simp)) (by simp)]
    obtain ⟨y, t, e⟩ := List.exists_cons_of_ne_nil n
    rw [e, join_cons]
    simp only [app_assoc]
theorem sText_eq (s : List Int) : sText s = Str.join " " (sWords s) := join_eq ..
theorem ss_text {l : List (List Int)} (h : ∀ s ∈ l, s ≠ []) : ssText l = Str.join " " (ssWords l) := by
  unfold ssText ssWords
  split
  · rfl
  · rename_i hl
    rw [join_eq, show (" , " : Str) = " " ++ "," ++ " " from by decide, ← join_inter]
    · rw [List.map_map]
      congr 1
      apply List.map_congr_left
      intro s _
      exact sText_eq s
    · simpa using hl
    · intro a ha
      obtain ⟨s, hs, rfl⟩ := List.mem_map.mp ha
      simpa [sWords] using h s hs
theorem ssWords_ne {l : List (List Int)} (h : ∀ s ∈ l, s ≠ []) : ssWords l ≠ [] := by
  unfold ssWords
  split
  · simp
  · rename_i hl
    refine inter_ne (by simpa using hl) fun a ha => ?_
    obtain ⟨s, hs, rfl⟩ := List.mem_map.mp ha
    simpa [sWords] using h s hs
theorem Gt.ne {t : Tk} (h : Gt t) : ∀ s ∈ t.2, s ≠ [] := fun s hs => (h.1 s hs).1
theorem tWords_ne {t : Tk} (h : Gt t) : tWords t ≠ [] := by
  unfold tWords
  have := ssWords_ne h.ne
  simp [this]
theorem t_text {t : Tk} (h : Gt t) : tText t = Str.join " " (tWords t) := by
  unfold tText tWords
  rw [ss_text h.ne]
  split
  · obtain ⟨y, r, e⟩ := List.exists_cons_of_ne_nil (ssWords_ne h.ne)
    rw [e]
    show _ = Str.join " " ("mute" :: y :: r)
    rw [join_cons, show ("mute " : Str) = "mute" ++ " " from by decide]
  · rw [List.nil_append]
    exact ext_tl (by rw [tl_append]; rfl)
theorem p_text {ts : List Tk} (h0 : ts ≠ []) (h : ∀ t ∈ ts, Gt t) : pText ts = Str.join " " (pWords ts) := by
  unfold pText pWords
  rw [join_eq, show (" / " : Str) = " " ++ "/" ++ " " from by decide, ← join_inter]
  · rw [List.map_map]
    congr 1
    apply List.map_congr_left
    intro t ht
    exact t_text (h t ht)
  · simpa using h0
  · intro a ha
    obtain ⟨t, ht, rfl⟩ := List.mem_map.mp ha
    exact tWords_ne (h t ht)
/-- a word of the texts -/
def Wok (w : Str) : Prop := w.length ≤ 4 ∧ 32 ∉ tl w ∧ ∀ c ∈ tl w, c < 1114112
theorem num_ok {i : Int} (h0 : 0 ≤ i) (h8 : i ≤ 8) : (num i).length = 1 ∧ 32 ∉ tl (num i) ∧ intText? (num i) = some i ∧ num i ≠ "-" ∧ num i ≠ "mute" ∧ num i ≠ "," ∧ num i ≠ "/" ∧ num i ≠ "" := by
  obtain ⟨n, rfl⟩ := Int.eq_ofNat_of_zero_le h0
  have hn : n ≤ 8 := by omega
  have : ∀ n ≤ 8, (num (n : Nat)).length = 1 ∧ 32 ∉ tl (num (n : Nat)) ∧ intText? (num (n : Nat)) = some (n : Int) ∧ num (n : Nat) ≠ "-" ∧ num (n : Nat) ≠ "mute" ∧ num (n : Nat) ≠ "," ∧ num (n : Nat) ≠ "/" ∧ num (n : Nat) ≠ "" := by decide +kernel
  exact this n hn
theorem num_cp {i : Int} (h0 : 0 ≤ i) (h8 : i ≤ 8) : ∀ c ∈ tl (num i), c < 1114112 := by
  obtain ⟨n, rfl⟩ := Int.eq_ofNat_of_zero_le h0
  have hn : n ≤ 8 := by omega
  have : ∀ n ≤ 8, ∀ c ∈ tl (num (n : Nat)), c < 1114112 := by decide +kernel
  exact this n hn
theorem inter_mem {w : Str} : ∀ {l : List (List Str)} {x : Str}, x ∈ inter w l → x = w ∨ ∃ a ∈ l, x ∈ a
  | [], x, h => by cases h
  | [a], x, h => .inr ⟨a, by simp, h⟩
  | a :: b :: r, x, h => by
    simp only [inter, List.mem_append, List.mem_cons] at h
    rcases h with h | h | h
    · exact .inr ⟨a, by simp, h⟩
    · exact .inl h
    · rcases inter_mem h with q | ⟨c, hc, q⟩
      · exact .inl q
      · exact .inr ⟨c, List.mem_cons_of_mem _ hc, q⟩
theorem inter_len {w : Str} {k : Nat} : ∀ {l : List (List Str)}, (∀ a ∈ l, a.length ≤ k) → (inter w l).length ≤ l.length * (k + 1)
  | [], _ => by simp [inter]
  | [a], h => by
    have := h a (by simp)
    simp [inter]
    omega
  | a :: b :: r, h => by
    have h1 := h a (by simp)
    have h2 := inter_len (w := w) (l := b :: r) (k := k) fun x hx => h x (List.mem_cons_of_mem _ hx)
    simp only [inter, List.length_append, List.length_cons] at h2 ⊢
    rw [Nat.add_mul (r.length + 1) 1]
    omega
theorem Gs.words {m : Bool} {s : List Int} (h : Gs m s) : ∀ w ∈ sWords s, Wok w := by
  intro w hw
  obtain ⟨x, hx, rfl⟩ := List.mem_map.mp hw
  obtain ⟨a, b⟩ := h.age x hx
  have := num_ok a b
  exact ⟨by omega, this.2.1, num_cp a b⟩
theorem Gt.words {t : Tk} (h : Gt t) : (∀ w ∈ tWords t, Wok w) ∧ (tWords t).length ≤ 61 := by
  unfold tWords ssWords
  have k1 : ∀ w ∈ (if t.1 = true then [("mute" : Str)] else []), Wok w := by
    intro w hw
    split at hw
    · rw [List.mem_singleton] at hw
      subst hw
      exact ⟨by decide, by decide, by decide⟩
    · cases hw
  have k2 : (if t.1 = true then [("mute" : Str)] else []).length ≤ 1 := by split <;> simp
  constructor
  · intro w hw
    rcases List.mem_append.mp hw with q | q
    · exact k1 w q
    · split at q
      · rw [List.mem_singleton] at q
        subst q
        exact ⟨by decide, by decide, by decide⟩
      · rcases inter_mem q with rfl | ⟨a, ha, q⟩
        · exact ⟨by decide, by decide, by decide⟩
        · obtain ⟨s, hs, rfl⟩ := List.mem_map.mp ha
          exact (h.1 s hs).words w q
  · rw [List.length_append]
    have : (if t.2 = [] then [("-" : Str)] else inter "," (t.2.map sWords)).length ≤ 60 := by
      split
      · simp
      · have z := inter_len (w := ",") (l := t.2.map sWords) (k := 9) (by
          intro a ha
          obtain ⟨s, hs, rfl⟩ := List.mem_map.mp ha
          simpa [sWords] using (h.1 s hs).len)
        have := h.2.2
        rw [List.length_map] at z
        omega
    omega
theorem p_words {ts : List Tk} (h : ∀ t ∈ ts, Gt t) (h6 : ts.length ≤ 6) : (∀ w ∈ pWords ts, Wok w) ∧ (pWords ts).length ≤ 372 := by
  constructor
  · intro w hw
    rcases inter_mem hw with rfl | ⟨a, ha, q⟩
    · exact ⟨by decide, by decide, by decide⟩
    · obtain ⟨t, ht, rfl⟩ := List.mem_map.mp ha
      exact (h t ht).words.1 w q
  · have z := inter_len (w := "/") (l := ts.map tWords) (k := 61) (by
      intro a ha
      obtain ⟨t, ht, rfl⟩ := List.mem_map.mp ha
      exact (h t ht).words.2)
    rw [List.length_map] at z
    unfold pWords
    omega
theorem join_len {s : Str} {k : Nat} : ∀ {l : List Str}, (∀ w ∈ l, w.length ≤ k) → (Str.join s l).length ≤ l.length * (k + s.length)
  | [], _ => by simp [Str.join, Str.empty, Str.length]
  | [a], h => by
    have := h a (by simp)
    simp [Str.join]
    omega
  | a :: b :: r, h => by
    have h1 := h a (by simp)
    have h2 := join_len (s := s) (l := b :: r) (k := k) fun x hx => h x (List.mem_cons_of_mem _ hx)
    rw [join_cons, app_len, app_len]
    simp only [List.length_cons] at h2 ⊢
    rw [Nat.add_mul (r.length + 1) 1]
    omega
theorem sText_len {m : Bool} {s : List Int} (h : Gs m s) : (sText s).length ≤ 45 := by
  rw [sText_eq]
  have z := join_len (s := " ") (k := 4) (l := sWords s) fun w hw => (h.words w hw).1
  have := h.len
  simp only [sWords, List.length_map] at z
  have e : Str.length " " = 1 := by decide
  rw [e] at z
  simp only [sWords]
  omega
theorem tText_len {t : Tk} (h : Gt t) : (tText t).length ≤ 305 := by
  rw [t_text h]
  have z := join_len (s := " ") (k := 4) (l := tWords t) fun w hw => (h.words.1 w hw).1
  have := h.words.2
  have e : Str.length " " = 1 := by decide
  rw [e] at z
  omega
theorem pText_len {ts : List Tk} (h0 : ts ≠ []) (h : ∀ t ∈ ts, Gt t) (h6 : ts.length ≤ 6) : (pText ts).length ≤ 1860 := by
  rw [p_text h0 h]
  have z := join_len (s := " ") (k := 4) (l := pWords ts) fun w hw => ((p_words h h6).1 w hw).1
  have := (p_words h h6).2
  have e : Str.length " " = 1 := by decide
  rw [e] at z
  omega
theorem join_cp {s : Str} (hs : ∀ c ∈ tl s, c < 1114112) : ∀ {l : List Str}, (∀ w ∈ l, ∀ c ∈ tl w, c < 1114112) → ∀ c ∈ tl (Str.join s l), c < 1114112
  | [], _, c, hc => by simp [Str.join, Str.empty, tl] at hc
  | [a], h, c, hc => h a (by simp) c hc
  | a :: b :: r, h, c, hc => by
    rw [join_cons, tl_append, tl_append] at hc
    rcases List.mem_append.mp hc with q | q
    · rcases List.mem_append.mp q with q | q
      · exact h a (by simp) c q
      · exact hs c q
    · exact join_cp hs (l := b :: r) (fun x hx => h x (List.mem_cons_of_mem _ hx)) c q
theorem tText_cp {t : Tk} (h : Gt t) : ∀ c ∈ tl (tText t), c < 1114112 := by
  rw [t_text h]
  exact join_cp (by decide) fun w hw => (h.words.1 w hw).2.2
theorem str_ok {x : Str} (h : ∀ c ∈ tl x, c < 1114112) : PyData.strOk x = true := by
  unfold PyData.strOk
  rw [← Array.all_toList]
  exact List.all_eq_true.mpr fun c hc => decide_eq_true (h c hc)
theorem t_split {t : Tk} (h : Gt t) : Txt.split (tText t) " " = tWords t := by
  rw [t_text h, ← join_eq]
  exact split_join (y := " ") (s := 32) (S := []) (by decide) (by decide +kernel) (tWords_ne h) fun w hw => (h.words.1 w hw).2.1
theorem p_split {ts : List Tk} (h0 : ts ≠ []) (h : ∀ t ∈ ts, Gt t) (h6 : ts.length ≤ 6) : Txt.split (pText ts) " " = pWords ts := by
  rw [p_text h0 h, ← join_eq]
  refine split_join (y := " ") (s := 32) (S := []) (by decide) (by decide +kernel) (inter_ne (by simpa using h0) fun a ha => ?_) fun w hw => ((p_words h h6).1 w hw).2.1
  obtain ⟨t, ht, rfl⟩ := List.mem_map.mp ha
  exact tWords_ne (h t ht)
end K81
set_option Elab.async false
set_option linter.all false
set_option maxRecDepth 100000
set_option maxHeartbeats 4000000
namespace K81
open RL PySem L2 TL
section
variable {ws : List Ce}
theorem lc_u {vs : List Nat} {it : Si} {t : Tg} {c : Sb} {el : Se} {ρ : List (Option D)} : sLc vs it t c el ρ ws = (it ρ ws).bind fun r ws1 => (loopLc r.1 r.2 t c el (wipeD ρ vs) r.1 [] ws1).bind fzL := rfl
theorem c00 : decide (((0 : Nat) : Int) = 0) = true := rfl
theorem sum_len {k : Nat} : ∀ {l : List Str}, (∀ w ∈ l, w.length ≤ k) → (l.map (·.length)).sum ≤ l.length * k
  | [], _ => by simp
  | a :: r, h => by
    have h1 := h a (by simp)
    have h2 := sum_len (l := r) (k := k) fun x hx => h x (List.mem_cons_of_mem _ hx)
    simp only [List.map_cons, List.sum_cons, List.length_cons]
    rw [Nat.add_mul r.length 1]
    omega
theorem join_do {a : Str} {l : List Str} {k : Nat} (h : ∀ w ∈ l, w.length ≤ k) (hk : l.length * k + l.length * a.length ≤ 100000) : fmJoin (.str a) [.lst (l.map .str)] ws = some (.str (Txt.join a l), ws) := by
  have z := sum_len h
  have : (l.map (·.length)).sum + l.length * a.length ≤ 100000 := by omega
  simp only [fmJoin, seqOf, Option.bind_some, strsOf_map, joinD, this, if_true]
theorem str_num {i : Int} (h0 : 0 ≤ i) (h8 : i ≤ 8) : gStr ws (.int i) = some (.str (num i)) := by
  have : i.natAbs.log2 < 1920 := by
    have h1 : i.natAbs.log2 ≤ i.natAbs := Nat.log2_le_self _
    omega
  simp only [gStr, this, if_true]
  rfl
/-- the text of the ages, whatever the slots -/
theorem lc_ages {m : Bool} {s : List Int} (h : Gs m s) {t : Tg} {ρ : List (Option D)} {el : Se} {all : List D} (he : ∀ x : Int, ∃ ρ1, t (.int x) ρ ws = .ok ρ1 ws ∧ (0 ≤ x → x ≤ 8 → el ρ1 ws = .ok (.str (num x)) ws)) :
    loopLc all none t sYes el ρ (s.map .int) [] ws = .ok ((sWords s).map .str) ws := by
  have hl := h.len
  have z := lc_map (src := none) (t := t) (el := el) (ρ := ρ) (f := fun d => match d with
      | .int x => .str (num x)
      | _ => .non) (ws := ws) (all := all) trivial (s.map .int) [] (by simp; omega) (by
    intro d hd
    obtain ⟨x, hx, rfl⟩ := List.mem_map.mp hd
    obtain ⟨a, b⟩ := h.age x hx
    obtain ⟨ρ1, e1, e2⟩ := he x
    exact ⟨ρ1, e1, e2 a b⟩)
  rw [z, List.nil_append]
  simp [sWords]
theorem lc_sums {t : Tk} (h : Gt t) {tg : Tg} {ρ : List (Option D)} {el : Se} {all : List D} (he : ∀ s : List Int, ∃ ρ1, tg (dNums s) ρ ws = .ok ρ1 ws ∧ (Gs t.1 s → el ρ1 ws = .ok (.str (sText s)) ws)) :
    loopLc all none tg sYes el ρ (t.2.map dNums) [] ws = .ok ((t.2.map sText).map .str) ws := by
  have hl := h.2.2
  have key : ∀ (l : List (List Int)) (acc : List D), (∀ s ∈ l, Gs t.1 s) → acc.length + l.length ≤ 100000 → loopLc all none tg sYes el ρ (l.map dNums) acc ws = .ok (acc ++ (l.map sText).map .str) ws := by
    intro l
    induction l with
    | nil => intro acc _ _; simp [loopLc, SrcOk]
    | cons s l ih =>
      intro acc k1 k2
      obtain ⟨ρ1, e1, e2⟩ := he s
      have hl' : acc.length < 100000 := by
        simp only [List.length_cons] at k2
        omega
      have z := ih (acc ++ [.str (sText s)]) (fun x hx => k1 x (List.mem_cons_of_mem _ hx)) (by simp at k2 ⊢; omega)
      simp only [List.map_cons, loopLc, SrcOk, if_true, e1, e2 (k1 s (by simp)), nox, R.bind_ok, sYes, hl', z]
      simp
  simpa using key t.2 [] h.1 (by simp; omega)
theorem sText_do {m : Bool} {s : List Int} (h : Gs m s) : fmJoin (.str " ") [.lst ((sWords s).map .str)] ws = some (.str (sText s), ws) := by
  have e : Str.length " " = 1 := by decide
  have := h.len
  refine join_do (k := 4) (fun w hw => (h.words w hw).1) ?_
  simp only [sWords, List.length_map, e]
  omega
theorem ssText_do {t : Tk} (h : Gt t) (hne : ¬ t.2 = []) : fmJoin (.str " , ") [.lst ((t.2.map sText).map .str)] ws = some (.str (ssText t.2), ws) := by
  have e : Str.length " , " = 3 := by decide
  have := h.2.2
  rw [join_do (k := 45) (fun w hw => by
    obtain ⟨s, hs, rfl⟩ := List.mem_map.mp hw
    exact sText_len (h.1 s hs)) (by
    simp only [List.length_map, e]
    omega)]
  simp only [ssText, hne, if_false]
theorem ssText_len {t : Tk} (h : Gt t) : (ssText t.2).length ≤ 305 := by
  have z := tText_len h
  unfold tText at z
  rw [app_len] at z
  omega
theorem sums_text {t : Tk} (h : Gt t) : m_sums_text [.tup (t.2.map dNums)] ws = .ok (.str (ssText t.2)) ws := by
  by_cases hne : t.2 = []
  · simp only [m_sums_text, g_sums_text, N_sums_text, bodyM, startD, sSeq, sIfS, sB, sNot, sNotV, sAnd, sAndT, sOrT, sOp, sVar, sC, sRet, sExpr, sSet, sAsg, sPar, sAug, sCons, sNil, sTup, sLst, sCall, sCB, fb1, ↓RL.bind_m, R.ofO_some, R.ofO_none, R.ofO, List.map_cons, List.map_nil, List.length_cons, List.length_nil, List.cons_append, List.nil_append, List.append_nil, List.replicate, List.set_cons_zero, List.set_cons_succ, List.getElem?_cons_zero, List.getElem?_cons_succ, Option.bind_some, Option.map_some, Option.bind_none, Option.map_none, if_true, if_false, Bool.false_eq_true, decide_true, decide_false, Nat.reduceAdd, Nat.reduceSub, Bool.not_true, Bool.not_false, sIf, sYes, sNext, sBad, tgName, tgTup, tgCons, tgNil, tupOf, seqOf, lstOf, ↓reduceIte, Nat.zero_le, Nat.reduceLeDiff, gLen, hne, fEqS, scalEq, c00, fin_rt, ssText]
  · have h2 : ¬ ((t.2.length : Int) = 0) := by
      have := List.length_pos_iff.mpr hne
      omega
    have z := lc_sums (ws := ws) h (tg := tgName 2) (ρ := wipeD [some (.tup (t.2.map dNums)), none, none] [2]) (el := sMB "str" fmJoin (sC (.str " ")) (sCons (sLc [1] (sItT (sVar 2)) (tgName 1) sYes (sCB (fb1 gStr) (sCons (sVar 1) sNil))) sNil)) (all := t.2.map dNums) (by
      intro s
      refine ⟨_, rfl, fun hs => ?_⟩
      have z1 := lc_ages (ws := ws) hs (t := tgName 1) (ρ := wipeD ((wipeD [some (.tup (t.2.map dNums)), none, none] [2]).set 2 (some (dNums s))) [1]) (el := sCB (fb1 gStr) (sCons (sVar 1) sNil)) (all := s.map .int) (by
        intro x
        refine ⟨_, rfl, fun a b => ?_⟩
        simp only [wipeD, bodyM, startD, sSeq, sIfS, sB, sNot, sNotV, sAnd, sAndT, sOrT, sOp, sVar, sC, sRet, sExpr, sSet, sAsg, sPar, sAug, sCons, sNil, sTup, sLst, sCall, sCB, fb1, ↓RL.bind_m, R.ofO_some, R.ofO_none, R.ofO, List.map_cons, List.map_nil, List.length_cons, List.length_nil, List.cons_append, List.nil_append, List.append_nil, List.replicate, List.set_cons_zero, List.set_cons_succ, List.getElem?_cons_zero, List.getElem?_cons_succ, Option.bind_some, Option.map_some, Option.bind_none, Option.map_none, if_true, if_false, Bool.false_eq_true, decide_true, decide_false, Nat.reduceAdd, Nat.reduceSub, Bool.not_true, Bool.not_false, sIf, sYes, sNext, sBad, tgName, tgTup, tgCons, tgNil, tupOf, seqOf, lstOf, ↓reduceIte, Nat.zero_le, Nat.reduceLeDiff, str_num a b])
      simp only [wipeD, List.set_cons_zero, List.set_cons_succ] at z1
      have e : tupOf (dNums s) = some (s.map .int) := rfl
      simp only [sMB, isTy, sC, R.bind_ok, beq_self_eq_true, if_true, sCons, lc_u, sItT, sVar, wipeD, List.set_cons_zero, List.set_cons_succ, List.getElem?_cons_zero, List.getElem?_cons_succ, e, Option.map_some, R.ofO_some, z1, fzL, sNil, sText_do hs])
    simp only [m_sums_text, g_sums_text, N_sums_text, bodyM, startD, sSeq, sIfS, sB, sNot, sNotV, sAnd, sAndT, sOrT, sOp, sVar, sC, sRet, sExpr, sSet, sAsg, sPar, sAug, sCons, sNil, sTup, sLst, sCall, sCB, fb1, ↓RL.bind_m, R.ofO_some, R.ofO_none, R.ofO, List.map_cons, List.map_nil, List.length_cons, List.length_nil, List.cons_append, List.nil_append, List.append_nil, List.replicate, List.set_cons_zero, List.set_cons_succ, List.getElem?_cons_zero, List.getElem?_cons_succ, Option.bind_some, Option.map_some, Option.bind_none, Option.map_none, if_true, if_false, Bool.false_eq_true, decide_true, decide_false, Nat.reduceAdd, Nat.reduceSub, Bool.not_true, Bool.not_false, sIf, sYes, sNext, sBad, tgName, tgTup, tgCons, tgNil, tupOf, seqOf, lstOf, ↓reduceIte, Nat.zero_le, Nat.reduceLeDiff, gLen, List.length_map, h2, fEqS, scalEq, sMB, isTy, beq_self_eq_true, lc_u, sItT, z, fzL, ssText_do h hne, fin_rt]
theorem tick_str {t : Tk} (h : Gt t) : m_Tick___str__ [oTick t] ws = .ok (.str (tText t)) ws := by
  have z := sums_text (ws := ws) h
  have l1 := ssText_len h
  have l2 : (ssText t.2).length ≤ 100000 := by omega
  have l3 := tText_len h
  have l4 : (tText t).length ≤ 100000 := by omega
  obtain ⟨m, l⟩ := t
  cases m with
  | true =>
    have e0 : Str.empty ++ ("mute " : Str) = "mute " := by decide
    have e1 : (Str.length "mute " ≤ 100000) := by decide
    simp only [tText, if_true] at l4
    simp only [m_Tick___str__, g_Tick___str__, N_Tick___str__, bodyM, startD, sSeq, sIfS, sB, sNot, sNotV, sAnd, sAndT, sOrT, sOp, sVar, sC, sRet, sExpr, sSet, sAsg, sPar, sAug, sCons, sNil, sTup, sLst, sCall, sCB, fb1, ↓RL.bind_m, R.ofO_some, R.ofO_none, R.ofO, List.map_cons, List.map_nil, List.length_cons, List.length_nil, List.cons_append, List.nil_append, List.append_nil, List.replicate, List.set_cons_zero, List.set_cons_succ, List.getElem?_cons_zero, List.getElem?_cons_succ, Option.bind_some, Option.map_some, Option.bind_none, Option.map_none, if_true, if_false, Bool.false_eq_true, decide_true, decide_false, Nat.reduceAdd, Nat.reduceSub, Bool.not_true, Bool.not_false, sIf, sYes, sNext, sBad, tgName, tgTup, tgCons, tgNil, tupOf, seqOf, lstOf, ↓reduceIte, Nat.zero_le, Nat.reduceLeDiff, sJoined, sJs, sFmt, sAttr, insT, ok1, ok2, z, e0, e1, l2, l4, fin_rt, tText]
  | false =>
    have e0 : Str.empty ++ ("" : Str) = "" := by decide
    have e1 : (Str.length "" ≤ 100000) := by decide
    simp only [tText, Bool.false_eq_true, if_false] at l4
    simp only [m_Tick___str__, g_Tick___str__, N_Tick___str__, bodyM, startD, sSeq, sIfS, sB, sNot, sNotV, sAnd, sAndT, sOrT, sOp, sVar, sC, sRet, sExpr, sSet, sAsg, sPar, sAug, sCons, sNil, sTup, sLst, sCall, sCB, fb1, ↓RL.bind_m, R.ofO_some, R.ofO_none, R.ofO, List.map_cons, List.map_nil, List.length_cons, List.length_nil, List.cons_append, List.nil_append, List.append_nil, List.replicate, List.set_cons_zero, List.set_cons_succ, List.getElem?_cons_zero, List.getElem?_cons_succ, Option.bind_some, Option.map_some, Option.bind_none, Option.map_none, if_true, if_false, Bool.false_eq_true, decide_true, decide_false, Nat.reduceAdd, Nat.reduceSub, Bool.not_true, Bool.not_false, sIf, sYes, sNext, sBad, tgName, tgTup, tgCons, tgNil, tupOf, seqOf, lstOf, ↓reduceIte, Nat.zero_le, Nat.reduceLeDiff, sJoined, sJs, sFmt, sAttr, insT, ok1, ok2, z, e0, e1, l2, l4, fin_rt, tText]
theorem law_tick_text {t : Tk} (h : Gt t) : m__law_tick_text [dTick t] ws = .ok (.str (tText t)) ws := by
  have l1 := ssText_len h
  have l2 : Str.length "mute " + (ssText t.2).length ≤ 100000 := by
    have : Str.length "mute " = 5 := by decide
    omega
  have l3 : Str.length "" + (ssText t.2).length ≤ 100000 := by
    have : Str.length "" = 0 := by decide
    omega
  have hr : ∀ f : Se, f = f := fun _ => rfl
  by_cases hne : t.2 = []
  · obtain ⟨m, l⟩ := t
    simp only at hne
    subst hne
    simp only [ssText, if_true] at l2 l3
    cases m <;> simp only [m__law_tick_text, g__law_tick_text, N__law_tick_text, bodyM, startD, sSeq, sIfS, sB, sNot, sNotV, sAnd, sAndT, sOrT, sOp, sVar, sC, sRet, sExpr, sSet, sAsg, sPar, sAug, sCons, sNil, sTup, sLst, sCall, sCB, fb1, ↓RL.bind_m, R.ofO_some, R.ofO_none, R.ofO, List.map_cons, List.map_nil, List.length_cons, List.length_nil, List.cons_append, List.nil_append, List.append_nil, List.replicate, List.set_cons_zero, List.set_cons_succ, List.getElem?_cons_zero, List.getElem?_cons_succ, Option.bind_some, Option.map_some, Option.bind_none, Option.map_none, if_true, if_false, Bool.false_eq_true, decide_true, decide_false, Nat.reduceAdd, Nat.reduceSub, Bool.not_true, Bool.not_false, sIf, sYes, sNext, sBad, tgName, tgTup, tgCons, tgNil, tupOf, seqOf, lstOf, ↓reduceIte, Nat.zero_le, Nat.reduceLeDiff, dTick, fIx, at0, at1, ne_nil0, fAddS, l2, l3, tText, ssText, fin_rt]
  · have z := lc_sums (ws := ws) h (tg := tgName 3) (ρ := wipeD [some (dTick t), none, none, none] [3]) (el := sMB "str" fmJoin (sC (.str " ")) (sCons (sLc [2] (sItT (sVar 3)) (tgName 2) sYes (sCB (fb1 gStr) (sCons (sVar 2) sNil))) sNil)) (all := t.2.map dNums) (by
      intro s
      refine ⟨_, rfl, fun hs => ?_⟩
      have z1 := lc_ages (ws := ws) hs (t := tgName 2) (ρ := wipeD ((wipeD [some (dTick t), none, none, none] [3]).set 3 (some (dNums s))) [2]) (el := sCB (fb1 gStr) (sCons (sVar 2) sNil)) (all := s.map .int) (by
        intro x
        refine ⟨_, rfl, fun a b => ?_⟩
        simp only [wipeD, bodyM, startD, sSeq, sIfS, sB, sNot, sNotV, sAnd, sAndT, sOrT, sOp, sVar, sC, sRet, sExpr, sSet, sAsg, sPar, sAug, sCons, sNil, sTup, sLst, sCall, sCB, fb1, ↓RL.bind_m, R.ofO_some, R.ofO_none, R.ofO, List.map_cons, List.map_nil, List.length_cons, List.length_nil, List.cons_append, List.nil_append, List.append_nil, List.replicate, List.set_cons_zero, List.set_cons_succ, List.getElem?_cons_zero, List.getElem?_cons_succ, Option.bind_some, Option.map_some, Option.bind_none, Option.map_none, if_true, if_false, Bool.false_eq_true, decide_true, decide_false, Nat.reduceAdd, Nat.reduceSub, Bool.not_true, Bool.not_false, sIf, sYes, sNext, sBad, tgName, tgTup, tgCons, tgNil, tupOf, seqOf, lstOf, ↓reduceIte, Nat.zero_le, Nat.reduceLeDiff, str_num a b])
      simp only [wipeD, List.set_cons_zero, List.set_cons_succ] at z1
      have e : tupOf (dNums s) = some (s.map .int) := rfl
      simp only [sMB, isTy, sC, R.bind_ok, beq_self_eq_true, if_true, sCons, lc_u, sItT, sVar, wipeD, List.set_cons_zero, List.set_cons_succ, List.getElem?_cons_zero, List.getElem?_cons_succ, e, Option.map_some, R.ofO_some, z1, fzL, sNil, sText_do hs])
    obtain ⟨m, l⟩ := t
    simp only [dTick] at z hne
    have zz := ssText_do (ws := ws) h hne
    simp only at zz
    cases m <;> simp only [m__law_tick_text, g__law_tick_text, N__law_tick_text, bodyM, startD, sSeq, sIfS, sB, sNot, sNotV, sAnd, sAndT, sOrT, sOp, sVar, sC, sRet, sExpr, sSet, sAsg, sPar, sAug, sCons, sNil, sTup, sLst, sCall, sCB, fb1, ↓RL.bind_m, R.ofO_some, R.ofO_none, R.ofO, List.map_cons, List.map_nil, List.length_cons, List.length_nil, List.cons_append, List.nil_append, List.append_nil, List.replicate, List.set_cons_zero, List.set_cons_succ, List.getElem?_cons_zero, List.getElem?_cons_succ, Option.bind_some, Option.map_some, Option.bind_none, Option.map_none, if_true, if_false, Bool.false_eq_true, decide_true, decide_false, Nat.reduceAdd, Nat.reduceSub, Bool.not_true, Bool.not_false, sIf, sYes, sNext, sBad, tgName, tgTup, tgCons, tgNil, tupOf, seqOf, lstOf, ↓reduceIte, Nat.zero_le, Nat.reduceLeDiff, dTick, fIx, at0, at1, ne_nil_numss, hne, sMB, isTy, beq_self_eq_true, lc_u, sItL, itOf, z, fzL, zz, fAddS, l2, l3, tText, fin_rt]
end
end K81
set_option Elab.async false
set_option linter.all false
set_option maxRecDepth 100000
set_option maxHeartbeats 4000000
namespace K81
open RL PySem L2 TL
section
variable {ws : List Ce}
theorem lc_gen {α : Type} {src : Option Nat} {tg : Tg} {ρ : List (Option D)} {el : Se} {all : List D} (g f : α → D) (hs : SrcOk src all ws) : ∀ (l : List α) (acc : List D), acc.length + l.length ≤ 100000 →
    (∀ a ∈ l, ∃ ρ1, tg (g a) ρ ws = .ok ρ1 ws ∧ el ρ1 ws = .ok (f a) ws) → loopLc all src tg sYes el ρ (l.map g) acc ws = .ok (acc ++ l.map f) ws
  | [], acc, _, _ => by simp [loopLc, hs]
  | a :: l, acc, hl, h => by
    obtain ⟨ρ1, e1, e2⟩ := h a (List.mem_cons_self ..)
    have hl' : acc.length < 100000 := by
      simp only [List.length_cons] at hl
      omega
    have z := lc_gen g f hs l (acc ++ [f a]) (by simp at hl ⊢; omega) (fun x hx => h x (List.mem_cons_of_mem _ hx))
    simp only [List.map_cons, loopLc, hs, if_true, e1, e2, nox, R.bind_ok, sYes, hl', z]
    simp
theorem pText_do {ts : List Tk} (h : ∀ t ∈ ts, Gt t) (h6 : ts.length ≤ 6) : fmJoin (.str " / ") [.lst ((ts.map tText).map .str)] ws = some (.str (pText ts), ws) := by
  have e : Str.length " / " = 3 := by decide
  refine join_do (k := 305) (fun w hw => ?_) (by simp only [List.length_map, e]; omega)
  obtain ⟨t, ht, rfl⟩ := List.mem_map.mp hw
  exact tText_len (h t ht)
theorem plan_str {ts : List Tk} (h : ∀ t ∈ ts, Gt t) (h6 : ts.length ≤ 6) : m_Plan___str__ [oPlan ts] ws = .ok (.str (pText ts)) ws := by
  have z := lc_gen (src := none) (tg := tgName 1) (ρ := wipeD [some (oPlan ts), none] [1]) (el := sStrO "Tick" m_Tick___str__ (sCons (sVar 1) sNil)) (all := ts.map oTick) oTick (fun t => .str (tText t)) (ws := ws) trivial ts [] (by simp; omega) (by
    intro t ht
    refine ⟨_, rfl, ?_⟩
    simp only [wipeD, bodyM, startD, sSeq, sIfS, sB, sNot, sNotV, sAnd, sAndT, sOrT, sOp, sVar, sC, sRet, sExpr, sSet, sAsg, sPar, sAug, sCons, sNil, sTup, sLst, sCall, sCB, fb1, ↓RL.bind_m, R.ofO_some, R.ofO_none, R.ofO, List.map_cons, List.map_nil, List.length_cons, List.length_nil, List.cons_append, List.nil_append, List.append_nil, List.replicate, List.set_cons_zero, List.set_cons_succ, List.getElem?_cons_zero, List.getElem?_cons_succ, Option.bind_some, Option.map_some, Option.bind_none, Option.map_none, if_true, if_false, Bool.false_eq_true, decide_true, decide_false, Nat.reduceAdd, Nat.reduceSub, Bool.not_true, Bool.not_false, sIf, sYes, sNext, sBad, tgName, tgTup, tgCons, tgNil, tupOf, seqOf, lstOf, ↓reduceIte, Nat.zero_le, Nat.reduceLeDiff, sStrO, isT, tick_str (h t ht)])
  have e : (ts.map fun t => D.str (tText t)) = (ts.map tText).map .str := by simp
  rw [List.nil_append, e] at z
  simp only [m_Plan___str__, g_Plan___str__, N_Plan___str__, bodyM, startD, sSeq, sIfS, sB, sNot, sNotV, sAnd, sAndT, sOrT, sOp, sVar, sC, sRet, sExpr, sSet, sAsg, sPar, sAug, sCons, sNil, sTup, sLst, sCall, sCB, fb1, ↓RL.bind_m, R.ofO_some, R.ofO_none, R.ofO, List.map_cons, List.map_nil, List.length_cons, List.length_nil, List.cons_append, List.nil_append, List.append_nil, List.replicate, List.set_cons_zero, List.set_cons_succ, List.getElem?_cons_zero, List.getElem?_cons_succ, Option.bind_some, Option.map_some, Option.bind_none, Option.map_none, if_true, if_false, Bool.false_eq_true, decide_true, decide_false, Nat.reduceAdd, Nat.reduceSub, Bool.not_true, Bool.not_false, sIf, sYes, sNext, sBad, tgName, tgTup, tgCons, tgNil, tupOf, seqOf, lstOf, ↓reduceIte, Nat.zero_le, Nat.reduceLeDiff, sMB, isTy, beq_self_eq_true, lc_u, sItT, sAttr, insP, ok3, z, fzL, pText_do h h6, fin_rt]
theorem law_plan_text {ts : List Tk} {q : Nat} (hq : ws[q]? = some (.lst (ts.map dTick))) (h : ∀ t ∈ ts, Gt t) (h6 : ts.length ≤ 6) : m__law_plan_text [.cell q] ws = .ok (.str (pText ts)) ws := by
  have z := lc_gen (src := some q) (tg := tgName 1) (ρ := wipeD [some (.cell q), none] [1]) (el := sCall m__law_tick_text (sCons (sVar 1) sNil)) (all := ts.map dTick) dTick (fun t => .str (tText t)) (ws := ws) hq ts [] (by simp; omega) (by
    intro t ht
    refine ⟨_, rfl, ?_⟩
    simp only [wipeD, bodyM, startD, sSeq, sIfS, sB, sNot, sNotV, sAnd, sAndT, sOrT, sOp, sVar, sC, sRet, sExpr, sSet, sAsg, sPar, sAug, sCons, sNil, sTup, sLst, sCall, sCB, fb1, ↓RL.bind_m, R.ofO_some, R.ofO_none, R.ofO, List.map_cons, List.map_nil, List.length_cons, List.length_nil, List.cons_append, List.nil_append, List.append_nil, List.replicate, List.set_cons_zero, List.set_cons_succ, List.getElem?_cons_zero, List.getElem?_cons_succ, Option.bind_some, Option.map_some, Option.bind_none, Option.map_none, if_true, if_false, Bool.false_eq_true, decide_true, decide_false, Nat.reduceAdd, Nat.reduceSub, Bool.not_true, Bool.not_false, sIf, sYes, sNext, sBad, tgName, tgTup, tgCons, tgNil, tupOf, seqOf, lstOf, ↓reduceIte, Nat.zero_le, Nat.reduceLeDiff, law_tick_text (h t ht)])
  have e : (ts.map fun t => D.str (tText t)) = (ts.map tText).map .str := by simp
  rw [List.nil_append, e] at z
  simp only [m__law_plan_text, g__law_plan_text, N__law_plan_text, bodyM, startD, sSeq, sIfS, sB, sNot, sNotV, sAnd, sAndT, sOrT, sOp, sVar, sC, sRet, sExpr, sSet, sAsg, sPar, sAug, sCons, sNil, sTup, sLst, sCall, sCB, fb1, ↓RL.bind_m, R.ofO_some, R.ofO_none, R.ofO, List.map_cons, List.map_nil, List.length_cons, List.length_nil, List.cons_append, List.nil_append, List.append_nil, List.replicate, List.set_cons_zero, List.set_cons_succ, List.getElem?_cons_zero, List.getElem?_cons_succ, Option.bind_some, Option.map_some, Option.bind_none, Option.map_none, if_true, if_false, Bool.false_eq_true, decide_true, decide_false, Nat.reduceAdd, Nat.reduceSub, Bool.not_true, Bool.not_false, sIf, sYes, sNext, sBad, tgName, tgTup, tgCons, tgNil, tupOf, seqOf, lstOf, ↓reduceIte, Nat.zero_le, Nat.reduceLeDiff, sMB, isTy, beq_self_eq_true, lc_u, sItL, itOf, hq, z, fzL, pText_do h h6, fin_rt]
/-! reading -/
def up (W : List Str) (k : Nat) : Str := (W[k]?).getD ""
theorem upcoming (W : List Str) (k : Nat) : m_upcoming [.lst (W.map .str), .int (k : Nat)] ws = .ok (.str (up W k)) ws := by
  by_cases h : k < W.length
  · have h1 : (k : Int) < (W.length : Int) := by omega
    have e : up W k = W[k] := by simp [up, h]
    simp only [m_upcoming, g_upcoming, N_upcoming, bodyM, startD, sSeq, sIfS, sB, sNot, sNotV, sAnd, sAndT, sOrT, sOp, sVar, sC, sRet, sExpr, sSet, sAsg, sPar, sAug, sCons, sNil, sTup, sLst, sCall, sCB, fb1, ↓RL.bind_m, R.ofO_some, R.ofO_none, R.ofO, List.map_cons, List.map_nil, List.length_cons, List.length_nil, List.cons_append, List.nil_append, List.append_nil, List.replicate, List.set_cons_zero, List.set_cons_succ, List.getElem?_cons_zero, List.getElem?_cons_succ, Option.bind_some, Option.map_some, Option.bind_none, Option.map_none, if_true, if_false, Bool.false_eq_true, decide_true, decide_false, Nat.reduceAdd, Nat.reduceSub, Bool.not_true, Bool.not_false, sIf, sYes, sNext, sBad, tgName, tgTup, tgCons, tgNil, tupOf, seqOf, lstOf, ↓reduceIte, Nat.zero_le, Nat.reduceLeDiff, gLen, List.length_map, fLt, fI, h1, fIx, atI_map D.str W k h, fin_rt, e]
  · have h1 : ¬ (k : Int) < (W.length : Int) := by omega
    have e : up W k = "" := by
      unfold up
      rw [List.getElem?_eq_none (by omega)]
      rfl
    simp only [m_upcoming, g_upcoming, N_upcoming, bodyM, startD, sSeq, sIfS, sB, sNot, sNotV, sAnd, sAndT, sOrT, sOp, sVar, sC, sRet, sExpr, sSet, sAsg, sPar, sAug, sCons, sNil, sTup, sLst, sCall, sCB, fb1, ↓RL.bind_m, R.ofO_some, R.ofO_none, R.ofO, List.map_cons, List.map_nil, List.length_cons, List.length_nil, List.cons_append, List.nil_append, List.append_nil, List.replicate, List.set_cons_zero, List.set_cons_succ, List.getElem?_cons_zero, List.getElem?_cons_succ, Option.bind_some, Option.map_some, Option.bind_none, Option.map_none, if_true, if_false, Bool.false_eq_true, decide_true, decide_false, Nat.reduceAdd, Nat.reduceSub, Bool.not_true, Bool.not_false, sIf, sYes, sNext, sBad, tgName, tgTup, tgCons, tgNil, tupOf, seqOf, lstOf, ↓reduceIte, Nat.zero_le, Nat.reduceLeDiff, gLen, List.length_map, fLt, fI, h1, fin_rt, e]
theorem up_drop {W X : List Str} {k : Nat} {w : Str} (h : W.drop k = w :: X) : up W k = w ∧ k < W.length ∧ W.drop (k + 1) = X := by
  have hk : k < W.length := by
    by_cases q : k < W.length
    · exact q
    · rw [List.drop_eq_nil_of_le (by omega)] at h
      cases h
  rw [List.drop_eq_getElem_cons hk] at h
  injection h with h1 h2
  exact ⟨by simp [up, hk, h1], hk, h2⟩
theorem up_nil {W : List Str} {k : Nat} (h : W.drop k = []) : up W k = "" := by
  have : W.length ≤ k := List.drop_eq_nil_iff.mp h
  unfold up
  rw [List.getElem?_eq_none this]
  rfl
def nums : List Str := ([0, 1, 2, 3, 4, 5, 6, 7, 8] : List Int).map num
theorem flats_strs : ∀ s : List Str, flatsOf (s.map .str) = some (s.map V.str)
  | [] => rfl
  | a :: s => by simp [flatsOf, flatOf, flats_strs s]
theorem inV_strs (x : Str) : ∀ s : List Str, inV (.str x) (s.map V.str) = decide (x ∈ s)
  | [] => rfl
  | a :: s => by
    have z := inV_strs x s
    unfold inV at z ⊢
    rw [List.map_cons, List.any_cons, z]
    simp only [eqV, List.mem_cons, Bool.decide_or]
    congr 1
    by_cases h : a = x
    · subst h; simp
    · have h2 : ¬ x = a := fun q => h q.symm
      simp [h, h2]
theorem inF_strs (neg : Bool) (x : Str) (s : List Str) : fInF neg ws (.str x) (.lst (s.map .str)) = some (.bl (if neg then !decide (x ∈ s) else decide (x ∈ s))) := by
  simp only [fInF, flatOf, seqOf, flats_strs, Option.bind_some, inV_strs]
theorem num_mem {x : Int} (h0 : 0 ≤ x) (h8 : x ≤ 8) : num x ∈ nums := by
  refine List.mem_map.mpr ⟨x, ?_, rfl⟩
  have : ∀ n ≤ 8, ((n : Nat) : Int) ∈ ([0, 1, 2, 3, 4, 5, 6, 7, 8] : List Int) := by decide
  obtain ⟨n, rfl⟩ := Int.eq_ofNat_of_zero_le h0
  exact this n (by omega)
theorem int_of {x : Int} (h0 : 0 ≤ x) (h8 : x ≤ 8) : gIntS ws (.str (num x)) = some (.int x) := by
  have := num_ok h0 h8
  have l : (num x).length ≤ 640 := by omega
  simp only [gIntS, l, if_true, this.2.2.1, Option.map_some]
theorem read_sum_loop {W rest : List Str} {m : Bool} (hr : up rest 0 ∉ nums) : ∀ (r done : List Int) (fuel k : Nat) (least : Int) (w : Option D), r.length < fuel → Gs m (done ++ r) → W.drop k = sWords r ++ rest → (done = [] → r ≠ []) → (∀ y ∈ r, least ≤ y) →
    ∃ least' w', loopW (sOrT (sB (sOp fEqS (sCB (fb1 gLen) (sCons (sVar 3) sNil)) (sC (.int 0)))) (sB (sOp (fInF false) (sCall m_upcoming (sCons (sVar 0) (sCons (sVar 1) sNil))) (sVar 5)))) (sSeq (sSet 7 (sCall m_upcoming (sCons (sVar 0) (sCons (sVar 1) sNil))))
    (sSeq (sIfS (sOrT (sB (sOp (fInF true) (sVar 7) (sVar 5))) (sB (sOp fLt (sCB (fb1 gIntS) (sCons (sVar 7) sNil)) (sVar 4)))) (sRaise "BadText" ["line", "word"] (sCons (sC (.int 0)) (sCons (sVar 1) sNil))) sNext)
    (sSeq (sSet 3 (sTup (sStar (sVar 3) (sCons (sCB (fb1 gIntS) (sCons (sVar 7) sNil)) sNil))))
    (sSeq (sSet 4 (sOp fAdd (sCB (fb1 gIntS) (sCons (sVar 7) sNil)) (sC (.int 1))))
    (sAug 1 (gI fun i j => i + j) (sC (.int 1))))))) fuel [some (.lst (W.map .str)), some (.int (k : Nat)), some (.bl m), some (dNums done), some (.int least), some (.lst (nums.map .str)), none, w] ws =
    .ok ([some (.lst (W.map .str)), some (.int ((k + r.length : Nat) : Int)), some (.bl m), some (dNums (done ++ r)), some (.int least'), some (.lst (nums.map .str)), none, w'], .nx) ws
  | [], done, 0, k, least, w, hf, _, _, _, _ => by cases hf
  | [], done, fuel + 1, k, least, w, hf, hg, hd, hn, hy => by
    have h0 : done ≠ [] := fun q => hn q rfl
    have h2 : ¬ ((done.length : Int) = 0) := by
      have := List.length_pos_iff.mpr h0
      omega
    have hu : up W k = up rest 0 := by
      rw [show sWords [] = [] from rfl, List.nil_append] at hd
      rw [← hd]
      simp [up]
    refine ⟨least, w, ?_⟩
    simp only [loopW, bodyM, startD, sSeq, sIfS, sB, sNot, sNotV, sAnd, sAndT, sOrT, sOp, sVar, sC, sRet, sExpr, sSet, sAsg, sPar, sAug, sCons, sNil, sTup, sLst, sCall, sCB, fb1, ↓RL.bind_m, R.ofO_some, R.ofO_none, R.ofO, List.map_cons, List.map_nil, List.length_cons, List.length_nil, List.cons_append, List.nil_append, List.append_nil, List.replicate, List.set_cons_zero, List.set_cons_succ, List.getElem?_cons_zero, List.getElem?_cons_succ, Option.bind_some, Option.map_some, Option.bind_none, Option.map_none, if_true, if_false, Bool.false_eq_true, decide_true, decide_false, Nat.reduceAdd, Nat.reduceSub, Bool.not_true, Bool.not_false, sIf, sYes, sNext, sBad, tgName, tgTup, tgCons, tgNil, tupOf, seqOf, lstOf, ↓reduceIte, Nat.zero_le, Nat.reduceLeDiff, gLen, dNums, List.length_map, fEqS, scalEq, h2, upcoming, hu, inF_strs, hr, Nat.add_zero]
  | x :: r, done, 0, k, least, w, hf, _, _, _, _ => by cases hf
  | x :: r, done, fuel + 1, k, least, w, hf, hg, hd, hn, hy => by
    obtain ⟨a0, a8⟩ := hg.age x (by simp)
    have hd' : W.drop k = num x :: (sWords r ++ rest) := hd
    obtain ⟨u1, u2, u3⟩ := up_drop hd'
    have hm := num_mem a0 a8
    have hl : ¬ x < least := by
      have := hy x (by simp)
      omega
    have hlen := hg.len
    rw [List.length_append, List.length_cons] at hlen
    have h100 : (done.map D.int ++ [D.int x]).length ≤ 100000 := by
      simp
      omega
    have pw := (List.pairwise_append.mp hg.2.1).2.1
    obtain ⟨least', w', z⟩ := read_sum_loop hr r (done ++ [x]) fuel (k + 1) (x + 1) (some (.str (num x))) (by simp at hf; omega) (by simpa using hg) u3 (by simp) (by
      intro y hy'
      have := (List.pairwise_cons.mp pw).1 y hy'
      omega)
    refine ⟨least', w', ?_⟩
    have e1 : ((k + 1 + r.length : Nat) : Int) = ((k + (x :: r).length : Nat) : Int) := by
      simp only [List.length_cons]
      omega
    have e2 : done ++ [x] ++ r = done ++ x :: r := by simp
    have e3 : ((k : Nat) : Int) + 1 = ((k + 1 : Nat) : Int) := by omega
    rw [e1, e2] at z
    rw [← z]
    have i1 := int_of (ws := ws) a0 a8
    by_cases h0 : done = []
    · subst h0
      simp only [loopW, bodyM, startD, sSeq, sIfS, sB, sNot, sNotV, sAnd, sAndT, sOrT, sOp, sVar, sC, sRet, sExpr, sSet, sAsg, sPar, sAug, sCons, sNil, sTup, sLst, sCall, sCB, fb1, ↓RL.bind_m, R.ofO_some, R.ofO_none, R.ofO, List.map_cons, List.map_nil, List.length_cons, List.length_nil, List.cons_append, List.nil_append, List.append_nil, List.replicate, List.set_cons_zero, List.set_cons_succ, List.getElem?_cons_zero, List.getElem?_cons_succ, Option.bind_some, Option.map_some, Option.bind_none, Option.map_none, if_true, if_false, Bool.false_eq_true, decide_true, decide_false, Nat.reduceAdd, Nat.reduceSub, Bool.not_true, Bool.not_false, sIf, sYes, sNext, sBad, tgName, tgTup, tgCons, tgNil, tupOf, seqOf, lstOf, ↓reduceIte, Nat.zero_le, Nat.reduceLeDiff, gLen, dNums, List.length_map, fEqS, scalEq, c00, upcoming, u1, inF_strs, hm, i1, fLt, fI, hl, sStar, h100, fAdd, gI, e3, List.map_append]
    · have h2 : ¬ ((done.length : Int) = 0) := by
        have := List.length_pos_iff.mpr h0
        omega
      simp only [loopW, bodyM, startD, sSeq, sIfS, sB, sNot, sNotV, sAnd, sAndT, sOrT, sOp, sVar, sC, sRet, sExpr, sSet, sAsg, sPar, sAug, sCons, sNil, sTup, sLst, sCall, sCB, fb1, ↓RL.bind_m, R.ofO_some, R.ofO_none, R.ofO, List.map_cons, List.map_nil, List.length_cons, List.length_nil, List.cons_append, List.nil_append, List.append_nil, List.replicate, List.set_cons_zero, List.set_cons_succ, List.getElem?_cons_zero, List.getElem?_cons_succ, Option.bind_some, Option.map_some, Option.bind_none, Option.map_none, if_true, if_false, Bool.false_eq_true, decide_true, decide_false, Nat.reduceAdd, Nat.reduceSub, Bool.not_true, Bool.not_false, sIf, sYes, sNext, sBad, tgName, tgTup, tgCons, tgNil, tupOf, seqOf, lstOf, ↓reduceIte, Nat.zero_le, Nat.reduceLeDiff, gLen, dNums, List.length_map, fEqS, scalEq, h2, upcoming, u1, inF_strs, hm, i1, fLt, fI, hl, sStar, h100, fAdd, gI, e3, List.map_append]
end
end K81
set_option Elab.async false
set_option linter.all false
set_option maxRecDepth 100000
set_option maxHeartbeats 4000000
namespace K81
open RL PySem L2 TL
section
variable {ws : List Ce}
theorem add_i {a b : Int} : fAdd ws (.int a) (.int b) = some (.int (a + b)) := rfl
theorem gt_i {a b : Int} : fGt ws (.int a) (.int b) = some (.bl (decide (b < a))) := rfl
theorem read_sum {W rest : List Str} {m : Bool} {s : List Int} {k : Nat} (hg : Gs m s) (hr : up rest 0 ∉ nums) (hd : W.drop k = sWords s ++ rest) :
    m_read_sum [.lst (W.map .str), .int (k : Nat), .bl m] ws = .ok (.tup [.int ((k + s.length : Nat) : Int), dNums s]) ws := by
  have hl := hg.len
  obtain ⟨least', w', z⟩ := read_sum_loop (ws := ws) hr s [] 12 k (if m = true then 1 else 0) none (by omega) hg hd (fun _ => hg.1) fun y hy => (hg.2.2 y hy).1
  have z1 := lc_gen (src := none) (tg := tgName 6) (ρ := wipeD [some (.lst (W.map .str)), some (.int (k : Nat)), some (.bl m), some (dNums []), some (.int (if m = true then 1 else 0)), none, none, none] [6]) (el := sCB (fb1 gStr) (sCons (sVar 6) sNil)) (all := intsD 0 9) D.int (fun i => .str (num i)) (ws := ws) trivial ([0, 1, 2, 3, 4, 5, 6, 7, 8] : List Int) [] (by simp) (by
    intro x hx
    have : 0 ≤ x ∧ x ≤ 8 := (show ∀ x ∈ ([0, 1, 2, 3, 4, 5, 6, 7, 8] : List Int), 0 ≤ x ∧ x ≤ 8 by decide) x hx
    refine ⟨_, rfl, ?_⟩
    simp only [wipeD, bodyM, startD, sSeq, sIfS, sB, sNot, sNotV, sAnd, sAndT, sOrT, sOp, sVar, sC, sRet, sExpr, sSet, sAsg, sPar, sAug, sCons, sNil, sTup, sLst, sCall, sCB, fb1, ↓RL.bind_m, R.ofO_some, R.ofO_none, R.ofO, List.map_cons, List.map_nil, List.length_cons, List.length_nil, List.cons_append, List.nil_append, List.append_nil, List.replicate, List.set_cons_zero, List.set_cons_succ, List.getElem?_cons_zero, List.getElem?_cons_succ, Option.bind_some, Option.map_some, Option.bind_none, Option.map_none, if_true, if_false, Bool.false_eq_true, decide_true, decide_false, Nat.reduceAdd, Nat.reduceSub, Bool.not_true, Bool.not_false, sIf, sYes, sNext, sBad, tgName, tgTup, tgCons, tgNil, tupOf, seqOf, lstOf, ↓reduceIte, Nat.zero_le, Nat.reduceLeDiff, str_num this.1 this.2])
  have e1 : ([0, 1, 2, 3, 4, 5, 6, 7, 8] : List Int).map D.int = intsD 0 9 := rfl
  have e2 : ([0, 1, 2, 3, 4, 5, 6, 7, 8] : List Int).map (fun i => D.str (num i)) = nums.map .str := rfl
  rw [List.nil_append, e1, e2] at z1
  have e9 : ((8 : Int) + 1) = 9 := rfl
  have q9 : (-1000000 : Int) ≤ 9 ∧ (9 : Int) ≤ 1000000 := by omega
  have t9 : (9 : Int).toNat = 9 := rfl
  have hw : dNums [] = .tup [] := rfl
  rw [List.nil_append] at z
  rw [hw] at z z1
  simp only [m_read_sum, g_read_sum, N_read_sum, bodyM, startD, sSeq, sIfS, sB, sNot, sNotV, sAnd, sAndT, sOrT, sOp, sVar, sC, sRet, sExpr, sSet, sAsg, sPar, sAug, sCons, sNil, sTup, sLst, sCall, sCB, fb1, ↓RL.bind_m, R.ofO_some, R.ofO_none, R.ofO, List.map_cons, List.map_nil, List.length_cons, List.length_nil, List.cons_append, List.nil_append, List.append_nil, List.replicate, List.set_cons_zero, List.set_cons_succ, List.getElem?_cons_zero, List.getElem?_cons_succ, Option.bind_some, Option.map_some, Option.bind_none, Option.map_none, if_true, if_false, Bool.false_eq_true, decide_true, decide_false, Nat.reduceAdd, Nat.reduceSub, Bool.not_true, Bool.not_false, sIf, sYes, sNext, sBad, tgName, tgTup, tgCons, tgNil, tupOf, seqOf, lstOf, ↓reduceIte, Nat.zero_le, Nat.reduceLeDiff, gInt, lc_u, sItR1, add_i, e9, q9, and_self, t9, z1, fzL, sWhile, z, fin_rt]
theorem frz_ints (n : Nat) : ∀ s : List Int, frzDs n ws (s.map .int) = some (s.map .int)
  | [] => rfl
  | a :: s => by simp [frzDs, frzD, frz_ints n s]
theorem frz_nums (n : Nat) (s : List Int) : frzD n ws (dNums s) = some (dNums s) := by simp [dNums, frzD, frz_ints]
theorem frz_numss (n : Nat) : ∀ l : List (List Int), frzDs n ws (l.map dNums) = some (l.map dNums)
  | [] => rfl
  | a :: l => by simp [frzDs, frz_nums, frz_numss n l]
theorem frz_oTick (n : Nat) (t : Tk) : frzD n ws (oTick t) = some (oTick t) := by simp [oTick, frzD, frzDs, frz_numss]
theorem frz_oTicks (n : Nat) : ∀ l : List Tk, frzDs n ws (l.map oTick) = some (l.map oTick)
  | [] => rfl
  | a :: l => by simp [frzDs, frz_oTick, frz_oTicks n l]
theorem frz_oPlan (n : Nat) (ts : List Tk) : frzD n ws (oPlan ts) = some (oPlan ts) := by simp [oPlan, frzD, frzDs, frz_oTicks]
/-- the words of the sums that are left, done being read -/
def left (done r : List (List Int)) : List Str := if r = [] then [] else (if done = [] then [] else [("," : Str)]) ++ inter "," (r.map sWords)
theorem left_cons (done r : List (List Int)) (s : List Int) : left done (s :: r) = (if done = [] then [] else [("," : Str)]) ++ (sWords s ++ left (done ++ [s]) r) := by
  unfold left
  rw [if_neg (by simp)]
  cases r with
  | nil => simp [inter]
  | cons a r => simp [inter]
theorem comma_no : ("," : Str) ∉ nums := by decide +kernel
theorem read_tick_loop {W rest : List Str} {m : Bool} (hr : up rest 0 ∉ nums) (hc : up rest 0 ≠ ",") : ∀ (r done : List (List Int)) (fuel k : Nat) (v : Option D), r.length < fuel → Gt (m, done ++ r) → W.drop k = left done r ++ rest → (done = [] → r ≠ []) →
    ∃ v', loopW (sOrT (sB (sOp fEqS (sCB (fb1 gLen) (sCons (sVar 3) sNil)) (sC (.int 0)))) (sB (sOp fEqS (sCall m_upcoming (sCons (sVar 0) (sCons (sVar 1) sNil))) (sC (.str ","))))) (sSeq (sIfS (sB (sOp fEqS (sCB (fb1 gLen) (sCons (sVar 3) sNil)) (sC (.int 6)))) (sRaise "BadText" ["line", "word"] (sCons (sC (.int 0)) (sCons (sVar 1) sNil))) sNext)
    (sSeq (sAsg (sCall m_read_sum (sCons (sVar 0) (sCons (sOp fAdd (sVar 1) (sCB (fb1 gInt) (sCons (sOp fGt (sCB (fb1 gLen) (sCons (sVar 3) sNil)) (sC (.int 0))) sNil))) (sCons (sVar 2) sNil)))) (tgTup 2 (tgCons (tgName 1) (tgCons (tgName 4) tgNil))))
    (sSeq (sIfS (sB (sOp fInD (sVar 4) (sVar 3))) (sRaise "BadText" ["line", "word"] (sCons (sC (.int 0)) (sCons (sOp fSub (sVar 1) (sC (.int 1))) sNil))) sNext)
    (sExpr (sMB "list" fmAppend (sVar 3) (sCons (sVar 4) sNil)))))) fuel [some (.lst (W.map .str)), some (.int (k : Nat)), some (.bl m), some (.cell ws.length), v] (ws ++ [.lst (done.map dNums)]) =
    .ok ([some (.lst (W.map .str)), some (.int ((k + (left done r).length : Nat) : Int)), some (.bl m), some (.cell ws.length), v'], .nx) (ws ++ [.lst ((done ++ r).map dNums)])
  | [], done, 0, k, v, hf, _, _, _ => by cases hf
  | [], done, fuel + 1, k, v, hf, hg, hd, hn => by
    have h0 : done ≠ [] := fun q => hn q rfl
    have h2 : ¬ ((done.length : Int) = 0) := by
      have := List.length_pos_iff.mpr h0
      omega
    have hq : (ws ++ [Ce.lst (done.map dNums)])[ws.length]? = some (.lst (done.map dNums)) := last_get rfl
    have hu : up W k = up rest 0 := by
      rw [show left done [] = [] from rfl, List.nil_append] at hd
      rw [← hd]
      simp [up]
    refine ⟨v, ?_⟩
    simp only [loopW, bodyM, startD, sSeq, sIfS, sB, sNot, sNotV, sAnd, sAndT, sOrT, sOp, sVar, sC, sRet, sExpr, sSet, sAsg, sPar, sAug, sCons, sNil, sTup, sLst, sCall, sCB, fb1, ↓RL.bind_m, R.ofO_some, R.ofO_none, R.ofO, List.map_cons, List.map_nil, List.length_cons, List.length_nil, List.cons_append, List.nil_append, List.append_nil, List.replicate, List.set_cons_zero, List.set_cons_succ, List.getElem?_cons_zero, List.getElem?_cons_succ, Option.bind_some, Option.map_some, Option.bind_none, Option.map_none, if_true, if_false, Bool.false_eq_true, decide_true, decide_false, Nat.reduceAdd, Nat.reduceSub, Bool.not_true, Bool.not_false, sIf, sYes, sNext, sBad, tgName, tgTup, tgCons, tgNil, tupOf, seqOf, lstOf, ↓reduceIte, Nat.zero_le, Nat.reduceLeDiff, gLen, hq, List.length_map, fEqS, scalEq, h2, upcoming, hu, hc, show left done [] = [] from rfl, Nat.add_zero]
  | s :: r, done, 0, k, v, hf, _, _, _ => by cases hf
  | s :: r, done, fuel + 1, k, v, hf, hg, hd, hn => by
    have hs : Gs m s := hg.1 s (by simp)
    have hq : (ws ++ [Ce.lst (done.map dNums)])[ws.length]? = some (.lst (done.map dNums)) := last_get rfl
    have hl := hg.2.2
    simp only [List.length_append, List.length_cons] at hl
    have h6 : ¬ ((done.length : Int) = 6) := by omega
    have hin : ¬ s ∈ done := by
      intro q
      exact (List.nodup_append.mp hg.2.1).2.2 s q s (by simp) rfl
    have hr' : up (left (done ++ [s]) r ++ rest) 0 ∉ nums := by
      unfold left
      split
      · simpa using hr
      · simpa [up] using comma_no
    have hap : done.length < 100000 := by omega
    rw [left_cons] at hd
    by_cases h0 : done = []
    · subst h0
      simp only [if_true, List.nil_append, List.append_assoc] at hd
      have z0 := read_sum (ws := ws ++ [Ce.lst []]) hs hr' hd
      have hd2 : W.drop (k + s.length) = left ([] ++ [s]) r ++ rest := by
        rw [← List.drop_drop, hd, List.drop_append_of_le_length (by simp [sWords])]
        simp [sWords]
      obtain ⟨v', z⟩ := read_tick_loop hr hc r [s] fuel (k + s.length) (some (dNums s)) (by simp at hf; omega) (by simpa using hg) hd2 (by simp)
      refine ⟨v', ?_⟩
      have e1 : ((k + s.length + (left [s] r).length : Nat) : Int) = ((k + (left [] (s :: r)).length : Nat) : Int) := by
        rw [left_cons]
        simp [sWords]
        omega
      have e2 : [s] ++ r = s :: r := rfl
      rw [e1, e2] at z
      rw [List.nil_append, ← z]
      have e0 : ((k : Nat) : Int) + 0 = ((k : Nat) : Int) := by omega
      have g0 : ¬ ((0 : Int) < ((0 : Nat) : Int)) := by omega
      have i1 := in_numssC (ws := ws ++ [Ce.lst []]) s [] (p := ws.length) (last_get rfl)
      have q0 : (ws ++ [Ce.lst []])[ws.length]? = some (.lst []) := last_get rfl
      have n6 : decide (((0 : Nat) : Int) = 6) = false := rfl
      simp only [List.not_mem_nil, decide_false] at i1
      simp only [loopW, bodyM, startD, sSeq, sIfS, sB, sNot, sNotV, sAnd, sAndT, sOrT, sOp, sVar, sC, sRet, sExpr, sSet, sAsg, sPar, sAug, sCons, sNil, sTup, sLst, sCall, sCB, fb1, ↓RL.bind_m, R.ofO_some, R.ofO_none, R.ofO, List.map_cons, List.map_nil, List.length_cons, List.length_nil, List.cons_append, List.nil_append, List.append_nil, List.replicate, List.set_cons_zero, List.set_cons_succ, List.getElem?_cons_zero, List.getElem?_cons_succ, Option.bind_some, Option.map_some, Option.bind_none, Option.map_none, if_true, if_false, Bool.false_eq_true, decide_true, decide_false, Nat.reduceAdd, Nat.reduceSub, Bool.not_true, Bool.not_false, sIf, sYes, sNext, sBad, tgName, tgTup, tgCons, tgNil, tupOf, seqOf, lstOf, ↓reduceIte, Nat.zero_le, Nat.reduceLeDiff, gLen, q0, fEqS, scalEq, c00, n6, add_i, gt_i, g0, gInt, e0, z0, i1, sMB, isTy, beq_self_eq_true, fmAppend, last_set rfl, Nat.reduceLT]
    · have h2 : ¬ ((done.length : Int) = 0) := by
        have := List.length_pos_iff.mpr h0
        omega
      have h3 : (0 : Int) < (done.length : Int) := by omega
      simp only [h0, if_false, List.append_assoc, List.singleton_append] at hd
      obtain ⟨u1, u2, u3⟩ := up_drop hd
      have u3 : W.drop (k + 1) = sWords s ++ (left (done ++ [s]) r ++ rest) := u3.trans (List.append_assoc _ _ _)
      have z0 := read_sum (ws := ws ++ [Ce.lst (done.map dNums)]) hs hr' u3
      have hd2 : W.drop (k + 1 + s.length) = left (done ++ [s]) r ++ rest := by
        rw [← List.drop_drop, u3, List.drop_append_of_le_length (by simp [sWords])]
        simp [sWords]
      obtain ⟨v', z⟩ := read_tick_loop hr hc r (done ++ [s]) fuel (k + 1 + s.length) (some (dNums s)) (by simp at hf; omega) (by simpa using hg) hd2 (by simp)
      refine ⟨v', ?_⟩
      have e1 : ((k + 1 + s.length + (left (done ++ [s]) r).length : Nat) : Int) = ((k + (left done (s :: r)).length : Nat) : Int) := by
        rw [left_cons]
        simp [sWords, h0]
        omega
      have e2 : done ++ [s] ++ r = done ++ s :: r := by simp
      rw [e1, e2] at z
      rw [← z]
      have e0 : ((k : Nat) : Int) + 1 = ((k + 1 : Nat) : Int) := by omega
      have i1 := in_numssC (ws := ws ++ [Ce.lst (done.map dNums)]) s done (p := ws.length) (last_get rfl)
      simp only [hin, decide_false] at i1
      simp only [loopW, bodyM, startD, sSeq, sIfS, sB, sNot, sNotV, sAnd, sAndT, sOrT, sOp, sVar, sC, sRet, sExpr, sSet, sAsg, sPar, sAug, sCons, sNil, sTup, sLst, sCall, sCB, fb1, ↓RL.bind_m, R.ofO_some, R.ofO_none, R.ofO, List.map_cons, List.map_nil, List.length_cons, List.length_nil, List.cons_append, List.nil_append, List.append_nil, List.replicate, List.set_cons_zero, List.set_cons_succ, List.getElem?_cons_zero, List.getElem?_cons_succ, Option.bind_some, Option.map_some, Option.bind_none, Option.map_none, if_true, if_false, Bool.false_eq_true, decide_true, decide_false, Nat.reduceAdd, Nat.reduceSub, Bool.not_true, Bool.not_false, sIf, sYes, sNext, sBad, tgName, tgTup, tgCons, tgNil, tupOf, seqOf, lstOf, ↓reduceIte, Nat.zero_le, Nat.reduceLeDiff, gLen, hq, List.length_map, fEqS, scalEq, h2, h6, upcoming, u1, add_i, gt_i, h3, gInt, e0, z0, i1, sMB, isTy, beq_self_eq_true, fmAppend, hap, last_set rfl, List.map_append]
end
end K81
set_option Elab.async false
set_option linter.all false
set_option maxRecDepth 100000
set_option maxHeartbeats 4000000
namespace K81
open RL PySem L2 TL
section
variable {ws : List Ce}
theorem mute_no : ("mute" : Str) ≠ "-" := by decide
theorem ss_head {t : Tk} (h : Gt t) : ∃ w X, ssWords t.2 = w :: X ∧ w ≠ "mute" ∧ (t.2 = [] → w = "-") ∧ (t.2 ≠ [] → w ≠ "-") := by
  obtain ⟨m, l⟩ := t
  cases l with
  | nil => exact ⟨"-", [], rfl, by decide, fun _ => rfl, fun q => absurd rfl q⟩
  | cons s l =>
    have hs : Gs m s := h.1 s (by simp)
    obtain ⟨x, s', rfl⟩ := List.exists_cons_of_ne_nil hs.1
    obtain ⟨a, b⟩ := hs.age x (by simp)
    obtain ⟨_, _, _, n1, n2, _⟩ := num_ok a b
    cases l with
    | nil => exact ⟨num x, _, rfl, n2, fun q => absurd q (by simp), fun _ => n1⟩
    | cons s2 l => exact ⟨num x, _, rfl, n2, fun q => absurd q (by simp), fun _ => n1⟩
theorem read_tick {W rest : List Str} {t : Tk} {k : Nat} (hg : Gt t) (hr : up rest 0 ∉ nums) (hc : up rest 0 ≠ ",") (hd : W.drop k = tWords t ++ rest) :
    m_read_tick [.lst (W.map .str), .int (k : Nat)] ws = .ok (.tup [.int ((k + (tWords t).length : Nat) : Int), oTick t]) ws := by
  obtain ⟨w, X, hw, w1, w2, w3⟩ := ss_head hg
  obtain ⟨m, l⟩ := t
  simp only at hw w2 w3
  obtain ⟨k1, hk1, hk2, hd1, hm⟩ : ∃ k1 : Nat, (k1 : Int) = (k : Int) + (if m = true then 1 else 0) ∧ k1 + (ssWords l).length = k + (tWords (m, l)).length ∧ W.drop k1 = ssWords l ++ rest ∧ decide (up W k = "mute") = m := by
    cases m with
    | true =>
      have hd' : W.drop k = ("mute" : Str) :: (ssWords l ++ rest) := hd
      obtain ⟨u1, u2, u3⟩ := up_drop hd'
      refine ⟨k + 1, rfl, ?_, u3, by simp [u1]⟩
      simp [tWords]
      omega
    | false =>
      have hd' : W.drop k = ssWords l ++ rest := hd
      have hd2 := hd'
      rw [hw] at hd2
      obtain ⟨u1, u2, u3⟩ := up_drop hd2
      exact ⟨k, by simp, by simp [tWords], hd', by simp [u1, w1]⟩
  have hd2 := hd1
  rw [hw] at hd2
  obtain ⟨u1, u2, u3⟩ := up_drop hd2
  by_cases hl : l = []
  · subst hl
    have hw0 := w2 rfl
    subst hw0
    have tm := tick_mk (ws := ws ++ [Ce.lst []]) hg
    simp only [List.map_nil, List.nil_append] at tm
    have e1 : (k1 : Int) + 1 = ((k + (tWords (m, [])).length : Nat) : Int) := by
      rw [← hk2]
      rfl
    simp only [m_read_tick, g_read_tick, N_read_tick, bodyM, startD, sSeq, sIfS, sB, sNot, sNotV, sAnd, sAndT, sOrT, sOp, sVar, sC, sRet, sExpr, sSet, sAsg, sPar, sAug, sCons, sNil, sTup, sLst, sCall, sCB, fb1, ↓RL.bind_m, R.ofO_some, R.ofO_none, R.ofO, List.map_cons, List.map_nil, List.length_cons, List.length_nil, List.cons_append, List.nil_append, List.append_nil, List.replicate, List.set_cons_zero, List.set_cons_succ, List.getElem?_cons_zero, List.getElem?_cons_succ, Option.bind_some, Option.map_some, Option.bind_none, Option.map_none, if_true, if_false, Bool.false_eq_true, decide_true, decide_false, Nat.reduceAdd, Nat.reduceSub, Bool.not_true, Bool.not_false, sIf, sYes, sNext, sBad, tgName, tgTup, tgCons, tgNil, tupOf, seqOf, lstOf, ↓reduceIte, Nat.zero_le, Nat.reduceLeDiff, upcoming, fEqS, scalEq, hm, gInt, add_i, ← hk1, sLstM, u1, sMk, tm, e1]
    rw [fin_rtA (d' := .tup [.int ((k + (tWords (m, [])).length : Nat) : Int), oTick (m, [])]) ?_ (by simp)]
    simp only [frzD, frzDs, frz_oTick, Option.bind_some, Option.map_some]
  · have hw0 := w3 hl
    have e0 : left [] l = ssWords l := by simp [left, ssWords, hl]
    obtain ⟨v', z⟩ := read_tick_loop (ws := ws) (m := m) hr hc l [] 8 k1 none (by have := hg.2.2; simp only at this; omega) (by simpa using hg) (by rw [e0]; exact hd1) (fun _ => hl)
    rw [e0, hk2, List.nil_append] at z
    have tm := tick_mk (ws := ws ++ [Ce.lst (l.map dNums)]) hg
    simp only at tm
    have hq : (ws ++ [Ce.lst (l.map dNums)])[ws.length]? = some (.lst (l.map dNums)) := last_get rfl
    rw [List.map_nil] at z
    simp only [m_read_tick, g_read_tick, N_read_tick, bodyM, startD, sSeq, sIfS, sB, sNot, sNotV, sAnd, sAndT, sOrT, sOp, sVar, sC, sRet, sExpr, sSet, sAsg, sPar, sAug, sCons, sNil, sTup, sLst, sCall, sCB, fb1, ↓RL.bind_m, R.ofO_some, R.ofO_none, R.ofO, List.map_cons, List.map_nil, List.length_cons, List.length_nil, List.cons_append, List.nil_append, List.append_nil, List.replicate, List.set_cons_zero, List.set_cons_succ, List.getElem?_cons_zero, List.getElem?_cons_succ, Option.bind_some, Option.map_some, Option.bind_none, Option.map_none, if_true, if_false, Bool.false_eq_true, decide_true, decide_false, Nat.reduceAdd, Nat.reduceSub, Bool.not_true, Bool.not_false, sIf, sYes, sNext, sBad, tgName, tgTup, tgCons, tgNil, tupOf, seqOf, lstOf, ↓reduceIte, Nat.zero_le, Nat.reduceLeDiff, upcoming, fEqS, scalEq, hm, gInt, add_i, ← hk1, sLstM, u1, hw0, sWhile, z, sMkS, hq, tm]
    rw [fin_rtA (d' := .tup [.int ((k + (tWords (m, l)).length : Nat) : Int), oTick (m, l)]) ?_ (by simp)]
    simp only [frzD, frzDs, frz_oTick, Option.bind_some, Option.map_some]
theorem sp_len : (Str.length " " == 0) = false := by decide
theorem tick_read {t : Tk} (h : Gt t) : m_Tick_read [.cls "Tick", .str (tText t)] ws = .ok (oTick t) ws := by
  have hl := tText_len h
  have hl2 : (Str.length " " == 0) = false ∧ (tText t).length ≤ 90000 := ⟨sp_len, by omega⟩
  have z := read_tick (ws := ws) (W := tWords t) (rest := []) (k := 0) h (by decide +kernel) (by decide +kernel) (by simp)
  have e0 : (((0 : Nat) : Int)) = 0 := rfl
  rw [e0] at z
  have lt : ¬ ((0 + (tWords t).length : Nat) : Int) < ((tWords t).length : Int) := by omega
  simp only [m_Tick_read, g_Tick_read, N_Tick_read, bodyM, startD, sSeq, sIfS, sB, sNot, sNotV, sAnd, sAndT, sOrT, sOp, sVar, sC, sRet, sExpr, sSet, sAsg, sPar, sAug, sCons, sNil, sTup, sLst, sCall, sCB, fb1, ↓RL.bind_m, R.ofO_some, R.ofO_none, R.ofO, List.map_cons, List.map_nil, List.length_cons, List.length_nil, List.cons_append, List.nil_append, List.append_nil, List.replicate, List.set_cons_zero, List.set_cons_succ, List.getElem?_cons_zero, List.getElem?_cons_succ, Option.bind_some, Option.map_some, Option.bind_none, Option.map_none, if_true, if_false, Bool.false_eq_true, decide_true, decide_false, Nat.reduceAdd, Nat.reduceSub, Bool.not_true, Bool.not_false, sIf, sYes, sNext, sBad, tgName, tgTup, tgCons, tgNil, tupOf, seqOf, lstOf, ↓reduceIte, Nat.zero_le, Nat.reduceLeDiff, sIsi, tyD, lk_s, sMB, isTy, beq_self_eq_true, fmSplit, hl2, and_self, t_split h, z, fIx, at0, at1, gLen, List.length_map, fLt, fI, lt, fin_rt]
/-- the words of the ticks that are left -/
def leftP (r : List Tk) : List Str := if r = [] then [] else ("/" : Str) :: inter "/" (r.map tWords)
theorem leftP_cons (t : Tk) (r : List Tk) : leftP (t :: r) = ("/" : Str) :: (tWords t ++ leftP r) := by
  unfold leftP
  rw [if_neg (by simp)]
  cases r with
  | nil => simp [inter]
  | cons a r => simp [inter]
theorem slash_no : ("/" : Str) ∉ nums := by decide +kernel
theorem empty_no : ("" : Str) ∉ nums := by decide +kernel
theorem leftP_up (r : List Tk) : up (leftP r) 0 ∉ nums ∧ up (leftP r) 0 ≠ "," := by
  cases r with
  | nil => exact ⟨by simpa [leftP, up] using empty_no, by simp only [leftP, up, if_true, List.getElem?_nil, Option.getD_none]; decide⟩
  | cons t r =>
    rw [leftP_cons]
    exact ⟨by simpa [up] using slash_no, by simp only [up, List.getElem?_cons_zero, Option.getD_some]; decide⟩
theorem read_plan_loop {W : List Str} {tx : D} : ∀ (r done : List Tk) (fuel k : Nat) (v : Option D), r.length < fuel → (∀ t ∈ r, Gt t) → done.length + r.length ≤ 6 → W.drop k = leftP r →
    ∃ k' v', loopW (sB (sOp fLt (sVar 3) (sCB (fb1 gLen) (sCons (sVar 2) sNil)))) (sSeq (sIfS (sOrT (sB (sOp fNeS (sOp fIx (sVar 2) (sVar 3)) (sC (.str "/")))) (sB (sOp fEqS (sCB (fb1 gLen) (sCons (sVar 5) sNil)) (sC (.int 6))))) (sRaise "BadText" ["line", "word"] (sCons (sC (.int 0)) (sCons (sVar 3) sNil))) sNext)
    (sSeq (sAsg (sCall m_read_tick (sCons (sVar 2) (sCons (sOp fAdd (sVar 3) (sC (.int 1))) sNil))) (tgTup 2 (tgCons (tgName 3) (tgCons (tgName 4) tgNil))))
    (sExpr (sMB "list" fmAppend (sVar 5) (sCons (sVar 4) sNil))))) fuel [some (.cls "Plan"), some tx, some (.lst (W.map .str)), some (.int (k : Nat)), v, some (.cell ws.length)] (ws ++ [.lst (done.map oTick)]) =
    .ok ([some (.cls "Plan"), some tx, some (.lst (W.map .str)), some (.int (k' : Nat)), v', some (.cell ws.length)], .nx) (ws ++ [.lst ((done ++ r).map oTick)])
  | [], done, 0, k, v, hf, _, _, _ => by cases hf
  | [], done, fuel + 1, k, v, hf, hg, hl, hd => by
    have h1 : W.length ≤ k := List.drop_eq_nil_iff.mp hd
    have h2 : ¬ (k : Int) < (W.length : Int) := by omega
    refine ⟨k, v, ?_⟩
    simp only [loopW, bodyM, startD, sSeq, sIfS, sB, sNot, sNotV, sAnd, sAndT, sOrT, sOp, sVar, sC, sRet, sExpr, sSet, sAsg, sPar, sAug, sCons, sNil, sTup, sLst, sCall, sCB, fb1, ↓RL.bind_m, R.ofO_some, R.ofO_none, R.ofO, List.map_cons, List.map_nil, List.length_cons, List.length_nil, List.cons_append, List.nil_append, List.append_nil, List.replicate, List.set_cons_zero, List.set_cons_succ, List.getElem?_cons_zero, List.getElem?_cons_succ, Option.bind_some, Option.map_some, Option.bind_none, Option.map_none, if_true, if_false, Bool.false_eq_true, decide_true, decide_false, Nat.reduceAdd, Nat.reduceSub, Bool.not_true, Bool.not_false, sIf, sYes, sNext, sBad, tgName, tgTup, tgCons, tgNil, tupOf, seqOf, lstOf, ↓reduceIte, Nat.zero_le, Nat.reduceLeDiff, gLen, List.length_map, fLt, fI, h2]
  | t :: r, done, 0, k, v, hf, _, _, _ => by cases hf
  | t :: r, done, fuel + 1, k, v, hf, hg, hl, hd => by
    rw [leftP_cons] at hd
    obtain ⟨u1, u2, u3⟩ := up_drop hd
    have h2 : (k : Int) < (W.length : Int) := by omega
    simp only [List.length_cons] at hl hf
    have h6 : ¬ ((done.length : Int) = 6) := by omega
    have hap : done.length < 100000 := by omega
    have hw : W[k] = ("/" : Str) := by
      rw [← u1]
      simp [up, u2]
    have hx : atI (W.map D.str) (k : Nat) = some (.str "/") := by rw [atI_map D.str W k u2, hw]
    have z0 := read_tick (ws := ws ++ [Ce.lst (done.map oTick)]) (hg t (by simp)) (leftP_up r).1 (leftP_up r).2 u3
    have hd2 : W.drop (k + 1 + (tWords t).length) = leftP r := by
      rw [← List.drop_drop, u3]
      simp
    obtain ⟨k', v', z⟩ := read_plan_loop r (done ++ [t]) fuel (k + 1 + (tWords t).length) (some (oTick t)) (by omega) (fun x hx => hg x (List.mem_cons_of_mem _ hx)) (by simp; omega) hd2
    refine ⟨k', v', ?_⟩
    have e2 : done ++ [t] ++ r = done ++ t :: r := by simp
    rw [e2] at z
    rw [← z]
    have e0 : ((k : Nat) : Int) + 1 = ((k + 1 : Nat) : Int) := by omega
    have hq : (ws ++ [Ce.lst (done.map oTick)])[ws.length]? = some (.lst (done.map oTick)) := last_get rfl
    simp only [loopW, bodyM, startD, sSeq, sIfS, sB, sNot, sNotV, sAnd, sAndT, sOrT, sOp, sVar, sC, sRet, sExpr, sSet, sAsg, sPar, sAug, sCons, sNil, sTup, sLst, sCall, sCB, fb1, ↓RL.bind_m, R.ofO_some, R.ofO_none, R.ofO, List.map_cons, List.map_nil, List.length_cons, List.length_nil, List.cons_append, List.nil_append, List.append_nil, List.replicate, List.set_cons_zero, List.set_cons_succ, List.getElem?_cons_zero, List.getElem?_cons_succ, Option.bind_some, Option.map_some, Option.bind_none, Option.map_none, if_true, if_false, Bool.false_eq_true, decide_true, decide_false, Nat.reduceAdd, Nat.reduceSub, Bool.not_true, Bool.not_false, sIf, sYes, sNext, sBad, tgName, tgTup, tgCons, tgNil, tupOf, seqOf, lstOf, ↓reduceIte, Nat.zero_le, Nat.reduceLeDiff, gLen, hq, List.length_map, fLt, fI, h2, fIx, hx, fNeS, fEqS, scalEq, h6, add_i, e0, z0, sMB, isTy, beq_self_eq_true, fmAppend, hap, last_set rfl, List.map_append]
theorem plan_read {ts : List Tk} (h0 : ts ≠ []) (h : ∀ t ∈ ts, Gt t) (h6 : ts.length ≤ 6) : m_Plan_read [.cls "Plan", .str (pText ts)] ws = .ok (oPlan ts) ws := by
  obtain ⟨t, r, rfl⟩ := List.exists_cons_of_ne_nil h0
  have hl := pText_len h0 h h6
  have hl2 : (Str.length " " == 0) = false ∧ (pText (t :: r)).length ≤ 90000 := ⟨sp_len, by omega⟩
  have hW : pWords (t :: r) = tWords t ++ leftP r := by
    unfold pWords leftP
    cases r with
    | nil => simp [inter]
    | cons a r => simp [inter]
  have z0 := read_tick (ws := ws) (W := pWords (t :: r)) (k := 0) (h t (by simp)) (leftP_up r).1 (leftP_up r).2 (by rw [List.drop_zero, hW])
  have e0 : (((0 : Nat) : Int)) = 0 := rfl
  rw [e0] at z0
  simp only [List.length_cons] at h6
  obtain ⟨k', v', z⟩ := read_plan_loop (ws := ws) (W := pWords (t :: r)) (tx := .str (pText (t :: r))) r [t] 8 (0 + (tWords t).length) (some (oTick t)) (by omega) (fun x hx => h x (List.mem_cons_of_mem _ hx)) (by simp; omega) (by
    rw [hW, Nat.zero_add]
    simp)
  have e2 : [t] ++ r = t :: r := rfl
  rw [e2] at z
  have hq : (ws ++ [Ce.lst ((t :: r).map oTick)])[ws.length]? = some (.lst ((t :: r).map oTick)) := last_get rfl
  have pm := plan_mk (ws := ws ++ [Ce.lst ((t :: r).map oTick)]) h0 (by simpa using h6)
  rw [List.map_cons, List.map_nil] at z
  rw [List.map_cons] at hq pm
  simp only [m_Plan_read, g_Plan_read, N_Plan_read, sBad, bodyM, startD, sSeq, sIfS, sB, sNot, sNotV, sAnd, sAndT, sOrT, sOp, sVar, sC, sRet, sExpr, sSet, sAsg, sPar, sAug, sCons, sNil, sTup, sLst, sCall, sCB, fb1, ↓RL.bind_m, R.ofO_some, R.ofO_none, R.ofO, List.map_cons, List.map_nil, List.length_cons, List.length_nil, List.cons_append, List.nil_append, List.append_nil, List.replicate, List.set_cons_zero, List.set_cons_succ, List.getElem?_cons_zero, List.getElem?_cons_succ, Option.bind_some, Option.map_some, Option.bind_none, Option.map_none, if_true, if_false, Bool.false_eq_true, decide_true, decide_false, Nat.reduceAdd, Nat.reduceSub, Bool.not_true, Bool.not_false, sIf, sYes, sNext, sBad, tgName, tgTup, tgCons, tgNil, tupOf, seqOf, lstOf, ↓reduceIte, Nat.zero_le, Nat.reduceLeDiff, sIsi, tyD, lk_s, sMB, isTy, beq_self_eq_true, fmSplit, hl2, and_self, p_split h0 h (by simpa using h6), z0, sLstM, sWhile, z, sMkS, hq, pm]
  rw [fin_rtA (d' := oPlan (t :: r)) (frz_oPlan ..) (by simp)]
end
end K81
set_option Elab.async false
set_option linter.all false
set_option maxRecDepth 100000
set_option maxHeartbeats 4000000
namespace K81
open RL PySem L2 TL
/-- a bench's cell -/
def bn (ns : List Tk) (q : Nat) : Ce := .ins "Bench" ["own_now", "past"] [oPlan ns, .cell q]
/-- the store after a deed -/
def nxt (ws : List Ce) (b q : Nat) (l : List D) (w : Str) (ns ns' : List Tk) : List Ce := (ws.set q (.lst (l ++ [.tup [.str w, oPlan ns]]))).set b (bn ns' q)
section
variable {ws : List Ce} {b q : Nat} {l : List D} {ns ns' : List Tk} {w : Str}
theorem insB (hb : ws[b]? = some (bn ns q)) : insOf ws "Bench" (.cell b) = some ((["own_now", "past"] : List Str), ([oPlan ns, .cell q] : List D)) := by simp [insOf, hb, bn]
theorem isB (hb : ws[b]? = some (bn ns q)) : isIns "Bench" ws (.cell b) = true := by simp [isIns, insB hb]
theorem ok4 : okI ["own_now", "past"] "own_now" 0 = true := by decide
theorem ok5 : okI ["own_now", "past"] "past" 1 = true := by decide
theorem nd1 : ¬ ("done" : Str) ∈ (["own_now", "past"] : List Str) := by decide
theorem nd2 : ¬ ("need_phase" : Str) ∈ (["own_now", "past"] : List Str) := by decide
theorem nd3 : ¬ ("with_phase" : Str) ∈ (["own_ticks"] : List Str) := by decide
theorem bench_done (hb : ws[b]? = some (bn ns q)) (hq : ws[q]? = some (.lst l)) (hne : b ≠ q) (hl : l.length < 100000) : m_Bench_done [.cell b, .str w, oPlan ns'] ws = .ok .non (nxt ws b q l w ns ns') := by
  have h1 : (ws.set q (.lst (l ++ [.tup [.str w, oPlan ns]])))[b]? = some (bn ns q) := by rw [List.getElem?_set_ne (Ne.symm hne), hb]
  have h2 := h1
  unfold bn at h2
  simp only [m_Bench_done, g_Bench_done, N_Bench_done, bodyM, startD, sSeq, sIfS, sB, sNot, sNotV, sAnd, sAndT, sOrT, sOp, sVar, sC, sRet, sExpr, sSet, sAsg, sPar, sAug, sCons, sNil, sTup, sLst, sCall, sCB, fb1, ↓RL.bind_m, R.ofO_some, R.ofO_none, R.ofO, List.map_cons, List.map_nil, List.length_cons, List.length_nil, List.cons_append, List.nil_append, List.append_nil, List.replicate, List.set_cons_zero, List.set_cons_succ, List.getElem?_cons_zero, List.getElem?_cons_succ, Option.bind_some, Option.map_some, Option.bind_none, Option.map_none, if_true, if_false, Bool.false_eq_true, decide_true, decide_false, Nat.reduceAdd, Nat.reduceSub, Bool.not_true, Bool.not_false, sIf, sYes, sNext, sBad, tgName, tgTup, tgCons, tgNil, tupOf, seqOf, lstOf, ↓reduceIte, Nat.zero_le, Nat.reduceLeDiff, sMB, sAttr, insB hb, ok4, ok5, isTy, hq, beq_self_eq_true, fmAppend, hl, sSetF, h2, and_self, Nat.reduceLT]
  rw [fin_nxL (by simp)]
  rfl
theorem len_o {a : Sa} {ρ : List (Option D)} (h : a ρ ws = .ok [oPlan ns] ws) (h6 : ns.length ≤ 6) : sLenO "Plan" m_Plan___len__ a ρ ws = .ok (.int (ns.length : Nat)) ws := by
  have h3 : (0 : Int) ≤ (ns.length : Int) ∧ (ns.length : Int) < 1000000 := by omega
  unfold sLenO
  rw [h, R.bind_ok]
  simp only [isP, if_true]
  rw [plan_len, R.bind_ok]
  exact if_pos h3
theorem len_b (hb : ws[b]? = some (bn ns q)) (h6 : ns.length ≤ 6) {ρ : List (Option D)} : sLenO "Plan" m_Plan___len__ (sCons (sAttr "Bench" "own_now" 0 (sVar 0)) sNil) (some (.cell b) :: ρ) ws = .ok (.int (ns.length : Nat)) ws := by
  refine len_o ?_ h6
  simp only [bodyM, startD, sSeq, sIfS, sB, sNot, sNotV, sAnd, sAndT, sOrT, sOp, sVar, sC, sRet, sExpr, sSet, sAsg, sPar, sAug, sCons, sNil, sTup, sLst, sCall, sCB, fb1, ↓RL.bind_m, R.ofO_some, R.ofO_none, R.ofO, List.map_cons, List.map_nil, List.length_cons, List.length_nil, List.cons_append, List.nil_append, List.append_nil, List.replicate, List.set_cons_zero, List.set_cons_succ, List.getElem?_cons_zero, List.getElem?_cons_succ, Option.bind_some, Option.map_some, Option.bind_none, Option.map_none, if_true, if_false, Bool.false_eq_true, decide_true, decide_false, Nat.reduceAdd, Nat.reduceSub, Bool.not_true, Bool.not_false, sIf, sYes, sNext, sBad, tgName, tgTup, tgCons, tgNil, tupOf, seqOf, lstOf, ↓reduceIte, Nat.zero_le, Nat.reduceLeDiff, sAttr, insB hb, ok4]
theorem items {ts : List Tk} (h6 : ts.length ≤ 6) : itemsO "Plan" "own_ticks" 0 m_Plan___len__ (oPlan ts) ws = some (ts.map oTick) := by
  have h3 : ws = ws ∧ (0 : Int) ≤ (ts.length : Int) ∧ (ts.length : Int) < 100000 ∧ (ts.map oTick).length ≤ 100000 := by
    rw [List.length_map]
    exact ⟨rfl, by omega, by omega, by omega⟩
  unfold itemsO
  rw [insP]
  simp only [ok3, if_true, List.getElem?_cons_zero]
  rw [plan_len]
  exact if_pos h3
theorem need_phase {i : Nat} (hb : ws[b]? = some (bn ns q)) (h : i < ns.length) (h6 : ns.length ≤ 6) : m_Bench_need_phase [.cell b, .int (i : Nat)] ws = .ok .non ws := by
  have h1 : (i : Int) ≤ (ns.length : Int) - 1 := by omega
  have h2 : (0 : Int) ≤ (i : Int) := by omega
  simp only [m_Bench_need_phase, g_Bench_need_phase, N_Bench_need_phase, bodyM, startD, sSeq, sIfS, sB, sNot, sNotV, sAnd, sAndT, sOrT, sOp, sVar, sC, sRet, sExpr, sSet, sAsg, sPar, sAug, sCons, sNil, sTup, sLst, sCall, sCB, fb1, ↓RL.bind_m, R.ofO_some, R.ofO_none, R.ofO, List.map_cons, List.map_nil, List.length_cons, List.length_nil, List.cons_append, List.nil_append, List.append_nil, List.replicate, List.set_cons_zero, List.set_cons_succ, List.getElem?_cons_zero, List.getElem?_cons_succ, Option.bind_some, Option.map_some, Option.bind_none, Option.map_none, if_true, if_false, Bool.false_eq_true, decide_true, decide_false, Nat.reduceAdd, Nat.reduceSub, Bool.not_true, Bool.not_false, sIf, sYes, sNext, sBad, tgName, tgTup, tgCons, tgNil, tupOf, seqOf, lstOf, ↓reduceIte, Nat.zero_le, Nat.reduceLeDiff, len_b hb h6, fSub, fI, is_within, h1, h2, Bool.and_self, fin_nx]
theorem bench_add {t : Tk} (hb : ws[b]? = some (bn ns q)) (hq : ws[q]? = some (.lst l)) (hne : b ≠ q) (hl : l.length < 100000) (h6 : ns.length < 6) :
    m_Bench_add [.cell b, oTick t] ws = .ok (.int (ns.length : Nat)) (nxt ws b q l "add" ns (ns ++ [t])) := by
  have po := plan_of (ws := ws) (ts := ns ++ [t]) (by simp) (by simp; omega)
  have h100 : (ns.map oTick ++ [oTick t]).length ≤ 100000 := by
    simp
    omega
  simp only [List.map_append, List.map_cons, List.map_nil] at po
  simp only [m_Bench_add, g_Bench_add, N_Bench_add, bodyM, startD, sSeq, sIfS, sB, sNot, sNotV, sAnd, sAndT, sOrT, sOp, sVar, sC, sRet, sExpr, sSet, sAsg, sPar, sAug, sCons, sNil, sTup, sLst, sCall, sCB, fb1, ↓RL.bind_m, R.ofO_some, R.ofO_none, R.ofO, List.map_cons, List.map_nil, List.length_cons, List.length_nil, List.cons_append, List.nil_append, List.append_nil, List.replicate, List.set_cons_zero, List.set_cons_succ, List.getElem?_cons_zero, List.getElem?_cons_succ, Option.bind_some, Option.map_some, Option.bind_none, Option.map_none, if_true, if_false, Bool.false_eq_true, decide_true, decide_false, Nat.reduceAdd, Nat.reduceSub, Bool.not_true, Bool.not_false, sIf, sYes, sNext, sBad, tgName, tgTup, tgCons, tgNil, tupOf, seqOf, lstOf, ↓reduceIte, Nat.zero_le, Nat.reduceLeDiff, need_tick, len_b hb (Nat.le_of_lt h6), sAttr, insB hb, ok4, sMeth, nd1, sStarI, items (Nat.le_of_lt h6), h100, po, bench_done hb hq hne hl]
  rw [fin_rtL (by simp [nxt])]
theorem bench_set {t : Tk} {i : Nat} (hb : ws[b]? = some (bn ns q)) (hq : ws[q]? = some (.lst l)) (hne : b ≠ q) (hl : l.length < 100000) (h6 : ns.length ≤ 6) (hi : i < ns.length) :
    m_Bench___setitem__ [.cell b, .int (i : Nat), oTick t] ws = .ok .non (nxt ws b q l "set" ns (ns.set i t)) := by
  simp only [m_Bench___setitem__, g_Bench___setitem__, N_Bench___setitem__, bodyM, startD, sSeq, sIfS, sB, sNot, sNotV, sAnd, sAndT, sOrT, sOp, sVar, sC, sRet, sExpr, sSet, sAsg, sPar, sAug, sCons, sNil, sTup, sLst, sCall, sCB, fb1, ↓RL.bind_m, R.ofO_some, R.ofO_none, R.ofO, List.map_cons, List.map_nil, List.length_cons, List.length_nil, List.cons_append, List.nil_append, List.append_nil, List.replicate, List.set_cons_zero, List.set_cons_succ, List.getElem?_cons_zero, List.getElem?_cons_succ, Option.bind_some, Option.map_some, Option.bind_none, Option.map_none, if_true, if_false, Bool.false_eq_true, decide_true, decide_false, Nat.reduceAdd, Nat.reduceSub, Bool.not_true, Bool.not_false, sIf, sYes, sNext, sBad, tgName, tgTup, tgCons, tgNil, tupOf, seqOf, lstOf, ↓reduceIte, Nat.zero_le, Nat.reduceLeDiff, sMeth, insB hb, nd1, nd2, nd3, need_phase hb hi h6, need_tick, sAttr, ok4, insP, plan_with hi h6, bench_done hb hq hne hl]
  rw [fin_nxL (by simp [nxt])]
theorem bench_put {s : List Int} {i : Nat} (hb : ws[b]? = some (bn ns q)) (hq : ws[q]? = some (.lst l)) (hne : b ≠ q) (hl : l.length < 100000) (h6 : ns.length ≤ 6) (hi : i < ns.length) (hg : Gt (ns[i].1, ns[i].2 ++ [s])) :
    m_Bench_put [.cell b, .int (i : Nat), dNums s] ws = .ok .non (nxt ws b q l "put" ns (ns.set i (ns[i].1, ns[i].2 ++ [s]))) := by
  have ta := tick_add (ws := ws) (t := ns[i]) hg
  have ty : tyN (dNums s) = some "tuple" := rfl
  simp only [m_Bench_put, g_Bench_put, N_Bench_put, bodyM, startD, sSeq, sIfS, sB, sNot, sNotV, sAnd, sAndT, sOrT, sOp, sVar, sC, sRet, sExpr, sSet, sAsg, sPar, sAug, sCons, sNil, sTup, sLst, sCall, sCB, fb1, ↓RL.bind_m, R.ofO_some, R.ofO_none, R.ofO, List.map_cons, List.map_nil, List.length_cons, List.length_nil, List.cons_append, List.nil_append, List.append_nil, List.replicate, List.set_cons_zero, List.set_cons_succ, List.getElem?_cons_zero, List.getElem?_cons_succ, Option.bind_some, Option.map_some, Option.bind_none, Option.map_none, if_true, if_false, Bool.false_eq_true, decide_true, decide_false, Nat.reduceAdd, Nat.reduceSub, Bool.not_true, Bool.not_false, sIf, sYes, sNext, sBad, tgName, tgTup, tgCons, tgNil, tupOf, seqOf, lstOf, ↓reduceIte, Nat.zero_le, Nat.reduceLeDiff, sMeth, insB hb, nd1, nd2, nd3, need_phase hb hi h6, sAttr, ok4, insP, sOwn, isP, Option.isSome_none, Option.isSome_some, Bool.false_eq_true, false_implies, and_self, and_true, plan_get hi, isT, ty, implies_true, ta, plan_with hi h6, bench_done hb hq hne hl]
  rw [fin_nxL (by simp [nxt])]
theorem bench_take {s : List Int} {i : Nat} (hb : ws[b]? = some (bn ns q)) (hq : ws[q]? = some (.lst l)) (hne : b ≠ q) (hl : l.length < 100000) (h6 : ns.length ≤ 6) (hi : i < ns.length) (hg : Gt ns[i]) (hs : s ∈ ns[i].2) :
    m_Bench_take [.cell b, .int (i : Nat), dNums s] ws = .ok .non (nxt ws b q l "take" ns (ns.set i (ns[i].1, ns[i].2.filter fun x => !decide (x = s)))) := by
  have ta := tick_sub (ws := ws) (t := ns[i]) hg hs
  have ty : tyN (dNums s) = some "tuple" := rfl
  simp only [m_Bench_take, g_Bench_take, N_Bench_take, bodyM, startD, sSeq, sIfS, sB, sNot, sNotV, sAnd, sAndT, sOrT, sOp, sVar, sC, sRet, sExpr, sSet, sAsg, sPar, sAug, sCons, sNil, sTup, sLst, sCall, sCB, fb1, ↓RL.bind_m, R.ofO_some, R.ofO_none, R.ofO, List.map_cons, List.map_nil, List.length_cons, List.length_nil, List.cons_append, List.nil_append, List.append_nil, List.replicate, List.set_cons_zero, List.set_cons_succ, List.getElem?_cons_zero, List.getElem?_cons_succ, Option.bind_some, Option.map_some, Option.bind_none, Option.map_none, if_true, if_false, Bool.false_eq_true, decide_true, decide_false, Nat.reduceAdd, Nat.reduceSub, Bool.not_true, Bool.not_false, sIf, sYes, sNext, sBad, tgName, tgTup, tgCons, tgNil, tupOf, seqOf, lstOf, ↓reduceIte, Nat.zero_le, Nat.reduceLeDiff, sMeth, insB hb, nd1, nd2, nd3, need_phase hb hi h6, sAttr, ok4, insP, sOwn, isP, Option.isSome_none, Option.isSome_some, Bool.false_eq_true, false_implies, and_self, and_true, plan_get hi, isT, ty, implies_true, ta, plan_with hi h6, bench_done hb hq hne hl]
  rw [fin_nxL (by simp [nxt])]
theorem bench_turn {n : Int} (hb : ws[b]? = some (bn ns q)) (hq : ws[q]? = some (.lst l)) (hne : b ≠ q) (hl : l.length < 100000) (h6 : ns.length ≤ 6) (h0 : ns ≠ []) (hn : 0 ≤ n) :
    m_Bench_turn [.cell b, .int n] ws = .ok .non (nxt ws b q l "turn" ns (rot ns (n % (ns.length : Int)).toNat)) := by
  have ty : tyN (.int n) = some "int" := rfl
  simp only [m_Bench_turn, g_Bench_turn, N_Bench_turn, bodyM, startD, sSeq, sIfS, sB, sNot, sNotV, sAnd, sAndT, sOrT, sOp, sVar, sC, sRet, sExpr, sSet, sAsg, sPar, sAug, sCons, sNil, sTup, sLst, sCall, sCB, fb1, ↓RL.bind_m, R.ofO_some, R.ofO_none, R.ofO, List.map_cons, List.map_nil, List.length_cons, List.length_nil, List.cons_append, List.nil_append, List.append_nil, List.replicate, List.set_cons_zero, List.set_cons_succ, List.getElem?_cons_zero, List.getElem?_cons_succ, Option.bind_some, Option.map_some, Option.bind_none, Option.map_none, if_true, if_false, Bool.false_eq_true, decide_true, decide_false, Nat.reduceAdd, Nat.reduceSub, Bool.not_true, Bool.not_false, sIf, sYes, sNext, sBad, tgName, tgTup, tgCons, tgNil, tupOf, seqOf, lstOf, ↓reduceIte, Nat.zero_le, Nat.reduceLeDiff, sMeth, insB hb, nd1, sAttr, ok4, sOwn, isP, Option.isSome_some, ty, implies_true, and_self, plan_turn h0 h6 hn, bench_done hb hq hne hl]
  rw [fin_nxL (by simp [nxt])]
theorem bench_replace (hb : ws[b]? = some (bn ns q)) (hq : ws[q]? = some (.lst l)) (hne : b ≠ q) (hl : l.length < 100000) :
    m_Bench_replace [.cell b, oPlan ns'] ws = .ok .non (nxt ws b q l "replace" ns ns') := by
  simp only [m_Bench_replace, g_Bench_replace, N_Bench_replace, bodyM, startD, sSeq, sIfS, sB, sNot, sNotV, sAnd, sAndT, sOrT, sOp, sVar, sC, sRet, sExpr, sSet, sAsg, sPar, sAug, sCons, sNil, sTup, sLst, sCall, sCB, fb1, ↓RL.bind_m, R.ofO_some, R.ofO_none, R.ofO, List.map_cons, List.map_nil, List.length_cons, List.length_nil, List.cons_append, List.nil_append, List.append_nil, List.replicate, List.set_cons_zero, List.set_cons_succ, List.getElem?_cons_zero, List.getElem?_cons_succ, Option.bind_some, Option.map_some, Option.bind_none, Option.map_none, if_true, if_false, Bool.false_eq_true, decide_true, decide_false, Nat.reduceAdd, Nat.reduceSub, Bool.not_true, Bool.not_false, sIf, sYes, sNext, sBad, tgName, tgTup, tgCons, tgNil, tupOf, seqOf, lstOf, ↓reduceIte, Nat.zero_le, Nat.reduceLeDiff, need_plan, sMeth, insB hb, nd1, bench_done hb hq hne hl]
  rw [fin_nxL (by simp [nxt])]
end
end K81
set_option Elab.async false
set_option linter.all false
set_option maxRecDepth 100000
set_option maxHeartbeats 4000000
namespace K81
open RL PySem L2 TL
section
variable {ws ws' : List Ce} {b q : Nat} {l : List D} {ns ns' : List Tk} {w : Str}
theorem fin_cut {xs : List Ce} {ρ : List (Option D)} {d d' : D} (hc : cutOk ws (ws' ++ xs)) (hl : ws'.length = ws.length) (hx : xs ≠ []) (hd : frzD ws.length (ws' ++ xs) d = some d') : fin false ws (.ok (ρ, .rt d) (ws' ++ xs)) = .ok d' ws' := by
  have : (ws' ++ xs).length ≠ ws.length := by
    have := List.length_pos_iff.mpr hx
    rw [List.length_append]
    omega
  have t : (ws' ++ xs).take ws.length = ws' := by
    rw [← hl]
    simp
  simp only [RL.fin, flR, R.bind_ok, frzR, this, if_false, hd, hc, if_true, t, Bool.false_eq_true]
theorem belows_app (n : Nat) : ∀ l m : List D, belows n (l ++ m) = (belows n l && belows n m)
  | [], m => by simp [belows]
  | a :: l, m => by simp [belows, belows_app n l m, Bool.and_assoc]
theorem nxt_len : (nxt ws b q l w ns ns').length = ws.length := by simp [nxt]
theorem nxt_b (hb : b < ws.length) : (nxt ws b q l w ns ns')[b]? = some (bn ns' q) := by
  unfold nxt
  rw [List.getElem?_set_self (by simpa using hb)]
theorem nxt_q (hne : b ≠ q) (hq : q < ws.length) : (nxt ws b q l w ns ns')[q]? = some (.lst (l ++ [.tup [.str w, oPlan ns]])) := by
  unfold nxt
  rw [List.getElem?_set_ne hne, List.getElem?_set_self hq]
theorem nxt_o {i : Nat} (h1 : i ≠ b) (h2 : i ≠ q) : (nxt ws b q l w ns ns')[i]? = ws[i]? := by
  unfold nxt
  rw [List.getElem?_set_ne (Ne.symm h1), List.getElem?_set_ne (Ne.symm h2)]
theorem below_entry (n : Nat) (w : Str) (ns : List Tk) : belows n [D.tup [.str w, oPlan ns]] = true := by simp [belows, below, below_oPlan]
theorem nxt_cut (xs : List Ce) (hne : b ≠ q) (hb : b < ws.length) (hq : q < ws.length) (hl : belows ws.length l = true) : cutOk ws (nxt ws b q l w ns ns' ++ xs) := by
  intro i hi
  rw [List.getElem?_append_left (by rw [nxt_len]; exact hi)]
  by_cases e1 : i = b
  · subst e1
    exact .inr ⟨_, nxt_b hb, by simp [bn, belowC, belows, below, below_oPlan, hq]⟩
  · by_cases e2 : i = q
    · subst e2
      exact .inr ⟨_, nxt_q hne hq, by simp only [belowC, belows_app, hl, below_entry, Bool.and_self]⟩
    · exact .inl (nxt_o e1 e2)
theorem lt_of {c : Ce} {i : Nat} (h : ws[i]? = some c) : i < ws.length := (List.getElem?_eq_some_iff.mp h).1
theorem erase_map {α β : Type} (f : α → β) : ∀ (l : List α) (i : Nat), (l.map f).eraseIdx i = (l.eraseIdx i).map f
  | [], _ => by simp
  | a :: l, 0 => by simp
  | a :: l, i + 1 => by simp [erase_map f l i]
theorem bench_drop {i : Nat} (hb : ws[b]? = some (bn ns q)) (hq : ws[q]? = some (.lst l)) (hne : b ≠ q) (hl : l.length < 100000) (h6 : ns.length ≤ 6) (hi : i < ns.length) (h1 : 1 < ns.length) (hbl : belows ws.length l = true) :
    m_Bench_drop [.cell b, .int (i : Nat)] ws = .ok (oTick ns[i]) (nxt ws b q l "drop" ns (ns.eraseIdx i)) := by
  have b0 := lt_of hb
  have q0 := lt_of hq
  have hn : (ws ++ [Ce.lst (ns.map oTick)])[ws.length]? = some (.lst (ns.map oTick)) := last_get rfl
  have hn2 : (ws ++ [Ce.lst ((ns.eraseIdx i).map oTick)])[ws.length]? = some (.lst ((ns.eraseIdx i).map oTick)) := last_get rfl
  have hb2 : (ws ++ [Ce.lst ((ns.eraseIdx i).map oTick)])[b]? = some (bn ns q) := by rw [List.getElem?_append_left b0, hb]
  have hq2 : (ws ++ [Ce.lst ((ns.eraseIdx i).map oTick)])[q]? = some (.lst l) := by rw [List.getElem?_append_left q0, hq]
  have si : seqIndex? ((i : Nat) : Int) (ns.map oTick).length = some i := by
    rw [seqIndex_of (by omega) (by rw [List.length_map]; omega), Int.toNat_natCast]
  have gi : (ns.map oTick)[i]? = some (oTick ns[i]) := by simp [hi]
  have ei : (ns.map oTick).eraseIdx i = (ns.eraseIdx i).map oTick := erase_map oTick ns i
  have r1 : (-1000000 : Int) ≤ (i : Int) ∧ (i : Int) ≤ 1000000 := by omega
  have le : (ns.eraseIdx i).length + 1 = ns.length := by
    rw [List.length_eraseIdx_of_lt hi]
    omega
  have po := plan_ofC (ws := ws ++ [Ce.lst ((ns.eraseIdx i).map oTick)]) hn2 (by
    intro e
    rw [e] at le
    simp at le
    omega) (by omega)
  have bd := bench_done (w := "drop") (ns' := ns.eraseIdx i) hb2 hq2 hne hl
  have na : nxt (ws ++ [Ce.lst ((ns.eraseIdx i).map oTick)]) b q l "drop" ns (ns.eraseIdx i) = nxt ws b q l "drop" ns (ns.eraseIdx i) ++ [Ce.lst ((ns.eraseIdx i).map oTick)] := by
    unfold nxt
    rw [List.set_append_left _ _ q0, List.set_append_left _ _ (by simpa using b0)]
  rw [na] at bd
  simp only [m_Bench_drop, g_Bench_drop, N_Bench_drop, bodyM, startD, sSeq, sIfS, sB, sNot, sNotV, sAnd, sAndT, sOrT, sOp, sVar, sC, sRet, sExpr, sSet, sAsg, sPar, sAug, sCons, sNil, sTup, sLst, sCall, sCB, fb1, ↓RL.bind_m, R.ofO_some, R.ofO_none, R.ofO, List.map_cons, List.map_nil, List.length_cons, List.length_nil, List.cons_append, List.nil_append, List.append_nil, List.replicate, List.set_cons_zero, List.set_cons_succ, List.getElem?_cons_zero, List.getElem?_cons_succ, Option.bind_some, Option.map_some, Option.bind_none, Option.map_none, if_true, if_false, Bool.false_eq_true, decide_true, decide_false, Nat.reduceAdd, Nat.reduceSub, Bool.not_true, Bool.not_false, sIf, sYes, sNext, sBad, tgName, tgTup, tgCons, tgNil, tupOf, seqOf, lstOf, ↓reduceIte, Nat.zero_le, Nat.reduceLeDiff, sMeth, insB hb, insB hb2, nd1, nd2, need_phase hb hi h6, sListI, sAttr, ok4, items h6, sMB, isTy, hn, beq_self_eq_true, fmPop, r1, and_self, si, gi, ei, last_set rfl, po, bd]
  rw [fin_cut (nxt_cut _ hne b0 q0 hbl) nxt_len (by simp) (frz_oTick ..)]
end
end K81
set_option Elab.async false
set_option linter.all false
set_option maxRecDepth 100000
set_option maxHeartbeats 4000000
namespace K81
open RL PySem L2 TL
/-- pen, the law's ticks, bench and past are in step -/
def bent (e : Str × List Tk) : D := .tup [.str e.1, oPlan e.2]
theorem below_bents (m : Nat) : ∀ es : List (Str × List Tk), belows m (es.map bent) = true
  | [] => rfl
  | e :: es => by simp [belows, bent, below, below_oPlan, below_bents m es]
structure Sx (S : List Int) (p a b q c : Nat) (oc : Ce) (j : Int) (ws : List Ce) (ts : List Tk) (es : List (Str × List Tk)) : Prop where
  pa : p ≠ a
  pb : p ≠ b
  pq : p ≠ q
  ab : a ≠ b
  aq : a ≠ q
  bq : b ≠ q
  hS : S.length ≤ 63
  hp : ∃ k g, ws[p]? = some (pen S k g) ∧ 0 ≤ k ∧ k ≤ j ∧ 0 ≤ g
  ha : ws[a]? = some (.lst (ts.map dTick))
  hb : ws[b]? = some (bn ts q)
  hq0 : ws[q]? = some (.lst (es.map bent))
  cp : c ≠ p
  ca : c ≠ a
  cb : c ≠ b
  cq : c ≠ q
  hc : ws[c]? = some oc
  gt : ∀ t ∈ ts, Gt t
  ne : ts ≠ []
  h6 : ts.length ≤ 6
section
variable {S : List Int} {p a b q c : Nat} {oc : Ce} {es es' : List (Str × List Tk)} {j j' : Int} {ws ws' ws0 : List Ce} {ts ts' : List Tk}
theorem Sx.hq {S : List Int} {p a b q c : Nat} {oc : Ce} {es : List (Str × List Tk)} {j : Int} {ws : List Ce} {ts : List Tk} (X : Sx S p a b q c oc j ws ts es) : ∃ l, ws[q]? = some (.lst l) ∧ l.length = es.length ∧ (∀ m, belows m l = true) ∧ l = es.map bent := ⟨_, X.hq0, by simp, fun m => below_bents m _, rfl⟩
theorem set_self {ws : List Ce} {i : Nat} {c : Ce} (h : ws[i]? = some c) : ws.set i c = ws := by
  apply List.ext_getElem?
  intro k
  by_cases e : i = k
  · subst e
    rw [List.getElem?_set_self (lt_of h), h]
  · rw [List.getElem?_set_ne e]
theorem Sx.dr (X : Sx S p a b q c oc j ws ts es) : Dr S p ws j ws := by
  obtain ⟨k, g, h1, h2, h3, h4⟩ := X.hp
  exact ⟨lt_of h1, X.hS, k, g, (set_self h1).symm, h2, h3, h4⟩
theorem Sx.of (X : Sx S p a b q c oc j ws ts es) (D : Dr S p ws j' ws') : Sx S p a b q c oc j' ws' ts es where
  pa := X.pa
  pb := X.pb
  pq := X.pq
  ab := X.ab
  aq := X.aq
  bq := X.bq
  hS := X.hS
  hp := by
    obtain ⟨h1, _, k, g, rfl, h2⟩ := D
    exact ⟨k, g, by rw [List.getElem?_set_self h1], h2⟩
  ha := by rw [D.at (Ne.symm X.pa)]; exact X.ha
  hb := by rw [D.at (Ne.symm X.pb)]; exact X.hb
  hq0 := by rw [D.at (Ne.symm X.pq)]; exact X.hq0
  cp := X.cp
  ca := X.ca
  cb := X.cb
  cq := X.cq
  hc := by rw [D.at X.cp]; exact X.hc
  gt := X.gt
  ne := X.ne
  h6 := X.h6
theorem Sx.next (X : Sx S p a b q c oc j ws ts es) {w : Str} {l : List D} (hp : ws'[p]? = ws[p]?) (ha : ws'[a]? = some (.lst (ts'.map dTick))) (hb : ws'[b]? = some (bn ts' q)) (hl : ws[q]? = some (.lst l))
    (hq : ws'[q]? = some (.lst (l ++ [.tup [.str w, oPlan ts]]))) (hcc : ws'[c]? = some oc) (gt : ∀ t ∈ ts', Gt t) (ne : ts' ≠ []) (h6 : ts'.length ≤ 6) : Sx S p a b q c oc j ws' ts' (es ++ [(w, ts)]) where
  pa := X.pa
  pb := X.pb
  pq := X.pq
  ab := X.ab
  aq := X.aq
  bq := X.bq
  hS := X.hS
  hp := by rw [hp]; exact X.hp
  ha := ha
  hb := hb
  hq0 := by
    have h1 := X.hq0
    rw [hl] at h1
    cases h1
    rw [hq]
    simp [bent]
  cp := X.cp
  ca := X.ca
  cb := X.cb
  cq := X.cq
  hc := hcc
  gt := gt
  ne := ne
  h6 := h6
theorem Sx.up (X : Sx S p a b q c oc j ws ts es) (h : j ≤ j') : Sx S p a b q c oc j' ws ts es where
  pa := X.pa
  pb := X.pb
  pq := X.pq
  ab := X.ab
  aq := X.aq
  bq := X.bq
  hS := X.hS
  hp := by
    obtain ⟨k, g, h1, h2, h3, h4⟩ := X.hp
    exact ⟨k, g, h1, h2, by omega, h4⟩
  ha := X.ha
  hb := X.hb
  hq0 := X.hq0
  cp := X.cp
  ca := X.ca
  cb := X.cb
  cq := X.cq
  hc := X.hc
  gt := X.gt
  ne := X.ne
  h6 := X.h6
/-- the ticks written first, then the bench -/
theorem Sx.next1 (X : Sx S p a b q c oc j ws ts es) {w : Str} {l : List D} (hl : ws[q]? = some (.lst l)) (gt : ∀ t ∈ ts', Gt t) (ne : ts' ≠ []) (h6 : ts'.length ≤ 6) : Sx S p a b q c oc j (nxt (ws.set a (.lst (ts'.map dTick))) b q l w ts ts') ts' (es ++ [(w, ts)]) := by
  have la := lt_of X.ha
  have lb := lt_of X.hb
  have lq := lt_of hl
  refine X.next (w := w) ?_ ?_ ?_ hl ?_ ?_ gt ne h6
  · rw [nxt_o X.pb X.pq, List.getElem?_set_ne (Ne.symm X.pa)]
  · rw [nxt_o X.ab X.aq, List.getElem?_set_self la]
  · rw [nxt_b (by simpa using lb)]
  · rw [nxt_q X.bq (by simpa using lq)]
  · rw [nxt_o X.cb X.cq, List.getElem?_set_ne (Ne.symm X.ca)]; exact X.hc
/-- the bench first, then the ticks -/
theorem Sx.next2 (X : Sx S p a b q c oc j ws ts es) {w : Str} {l : List D} (hl : ws[q]? = some (.lst l)) (gt : ∀ t ∈ ts', Gt t) (ne : ts' ≠ []) (h6 : ts'.length ≤ 6) : Sx S p a b q c oc j ((nxt ws b q l w ts ts').set a (.lst (ts'.map dTick))) ts' (es ++ [(w, ts)]) := by
  have la := lt_of X.ha
  have lb := lt_of X.hb
  have lq := lt_of hl
  refine X.next (w := w) ?_ ?_ ?_ hl ?_ ?_ gt ne h6
  · rw [List.getElem?_set_ne (Ne.symm X.pa), nxt_o X.pb X.pq]
  · rw [List.getElem?_set_self (by rw [nxt_len]; exact la)]
  · rw [List.getElem?_set_ne X.ab, nxt_b lb]
  · rw [List.getElem?_set_ne X.aq, nxt_q X.bq lq]
  · rw [List.getElem?_set_ne (Ne.symm X.ca), nxt_o X.cb X.cq]; exact X.hc
/-- some ticks drawn -/
theorem plan1 {tg : Tg} {el : Se} {ρ : List (Option D)} {all : List D} (he : ∀ d w, ∃ ρ1, tg d ρ w = .ok ρ1 w ∧ el ρ1 w = m__law_tick [.cell p] w) (h : Dr S p ws0 j ws) {ds : List D} (hd : ds.length ≤ 4) (hj : j + 80 ≤ 100000) :
    ∃ (ts : List Tk) (ws' : List Ce), loopLc all none tg sYes el ρ ds [] ws = .ok (ts.map dTick) ws' ∧ Dr S p ws0 (j + 80) ws' ∧ (∀ t ∈ ts, Gt t) ∧ ts.length = ds.length := by
  obtain ⟨l, ws1, z, ts, e1, D1, k1, k2⟩ := lc_inv (t := tg) (c := sYes) (el := el) (ρ := ρ) (all := all)
    (fun r acc w => ∃ ts : List Tk, acc = ts.map dTick ∧ Dr S p ws0 (j + 20 * (4 - r.length)) w ∧ (∀ t ∈ ts, Gt t) ∧ ts.length + r.length = ds.length) ds [] ws (by simp; omega)
    ⟨[], rfl, h.up (by omega), by simp, by simp⟩ (by
      rintro d r acc w ⟨ts, rfl, D1, k1, k2⟩
      simp only [List.length_cons] at D1 k2
      obtain ⟨ρ1, e1, e2⟩ := he d w
      obtain ⟨t, w2, e3, D2, g⟩ := tick1 D1 (by omega)
      refine ⟨ρ1, w, true, w, e1, rfl, .inl ⟨rfl, dTick t, w2, by rw [e2, e3], ts ++ [t], by simp, D2.up (by omega), ?_, by simp; omega⟩⟩
      intro x hx
      rcases List.mem_append.mp hx with q | q
      · exact k1 x q
      · rw [List.mem_singleton] at q
        subst q
        exact g)
  subst e1
  simp only [List.length_nil] at D1 k2
  exact ⟨ts, ws1, z, D1.up (by omega), k1, k2⟩
/-- what a deed tells -/
def Res (ts : List Tk) (w : D) (es es' : List (Str × List Tk)) : Prop := (w = .non ∧ es' = es) ∨ ∃ s : Str, w = .str s ∧ PyData.strOk s = true ∧ es' = es ++ [(s, ts)]
theorem mem_set {α : Type} {l : List α} {i : Nat} {x y : α} (h : y ∈ l.set i x) : y ∈ l ∨ y = x := List.mem_or_eq_of_mem_set h
theorem ix_nat {m i : Nat} (h : i < m) : ixN m ((i : Nat) : Int) = some i := by simp [ixN, h]
theorem map_set {α β : Type} (f : α → β) (l : List α) (i : Nat) (x : α) : (l.map f).set i (f x) = (l.set i x).map f := by
  rw [List.map_set]
end
end K81
set_option Elab.async false
set_option linter.all false
set_option maxRecDepth 100000
set_option maxHeartbeats 4000000
namespace K81
open RL PySem L2 TL
section
variable {S : List Int} {p a b q c : Nat} {oc : Ce} {es : List (Str × List Tk)} {j j' : Int} {ws ws' ws0 : List Ce} {ts ts' : List Tk}
theorem nd_put : ¬ ("put" : Str) ∈ (["own_now", "past"] : List Str) := by decide
theorem nd_take : ¬ ("take" : Str) ∈ (["own_now", "past"] : List Str) := by decide
theorem nd_turn : ¬ ("turn" : Str) ∈ (["own_now", "past"] : List Str) := by decide
theorem nd_rep : ¬ ("replace" : Str) ∈ (["own_now", "past"] : List Str) := by decide
theorem nd_add : ¬ ("add" : Str) ∈ (["own_now", "past"] : List Str) := by decide
theorem nd_drop : ¬ ("drop" : Str) ∈ (["own_now", "past"] : List Str) := by decide
theorem isN0 : isNonD .non = true := rfl
theorem Sx.len (X : Sx S p a b q c oc j ws ts es) (D : Dr S p ws j' ws') : ws'.length = ws.length := D.len
theorem ix_ts (ha : ws[a]? = some (.lst (ts.map dTick))) {i : Nat} (hi : i < ts.length) : fIx ws (.cell a) (.int (i : Nat)) = some (.tup [.bl ts[i].1, .lst (ts[i].2.map dNums)]) := by
  simp only [fIx, seqOf, ha, Option.bind_some, atI_map dTick ts i hi, dTick]
theorem eq_i {x y : Int} : fEqS ws (.int x) (.int y) = some (.bl (decide (x = y))) := rfl
theorem edit_put (X : Sx S p a b q c oc j ws ts es) (hj : j + 100 ≤ 100000) (hn : es.length < 100000) {i : Nat} (hi : i < ts.length) (h6 : ts[i].2.length < 6) :
    ∃ w ws' ts' es', m__law_edited [.cell p, .cell b, .cell a, .int 3, .int (i : Nat)] ws = .ok w ws' ∧ Sx S p a b q c oc (j + 100) ws' ts' es' ∧ Res ts w es es' ∧ ws'.length = ws.length := by
  obtain ⟨s, ws1, e1, D1, gs⟩ := sum1 (m := ts[i].1) X.dr (by omega)
  have X1 := (X.of D1).up (j' := j + 100) (by omega)
  have hl6 : ((ts[i].2.length : Nat) : Int) < 6 := by omega
  by_cases hin : s ∈ ts[i].2
  · refine ⟨.non, ws1, ts, es, ?_, X1, .inl ⟨rfl, rfl⟩, D1.len⟩
    simp only [m__law_edited, g__law_edited, N__law_edited, bodyM, startD, sSeq, sIfS, sB, sNot, sNotV, sAnd, sAndT, sOrT, sOp, sVar, sC, sRet, sExpr, sSet, sAsg, sPar, sAug, sCons, sNil, sTup, sLst, sCall, sCB, fb1, ↓RL.bind_m, R.ofO_some, R.ofO_none, R.ofO, List.map_cons, List.map_nil, List.length_cons, List.length_nil, List.cons_append, List.nil_append, List.append_nil, List.replicate, List.set_cons_zero, List.set_cons_succ, List.getElem?_cons_zero, List.getElem?_cons_succ, Option.bind_some, Option.map_some, Option.bind_none, Option.map_none, if_true, if_false, Bool.false_eq_true, decide_true, decide_false, Nat.reduceAdd, Nat.reduceSub, Bool.not_true, Bool.not_false, sIf, sYes, sNext, sBad, tgName, tgTup, tgCons, tgNil, tupOf, seqOf, lstOf, ↓reduceIte, Nat.zero_le, Nat.reduceLeDiff, ix_ts X.ha hi, eq_i, gLen, List.length_map, fLt, fI, hl6, e1, in_numss, hin]
    rw [fin_rtL D1.len]
  · obtain ⟨l, hl1, hl2, hl3, _⟩ := X1.hq
    have hg : Gt (ts[i].1, ts[i].2 ++ [s]) := by
      obtain ⟨g1, g2, g3⟩ := X.gt ts[i] (List.getElem_mem hi)
      refine ⟨fun x hx => ?_, ?_, by simp; omega⟩
      · rcases List.mem_append.mp hx with h | h
        · exact g1 x h
        · rw [List.mem_singleton] at h
          subst h
          exact gs
      · rw [List.nodup_append]
        exact ⟨g2, by simp, by
          intro x hx y hy
          rw [List.mem_singleton] at hy
          subst hy
          rintro rfl
          exact hin hx⟩
    have hset : (ts.map dTick).set i (.tup [.bl ts[i].1, .lst (ts[i].2.map dNums ++ [dNums s])]) = (ts.set i (ts[i].1, ts[i].2 ++ [s])).map dTick := by
      rw [← map_set]
      simp [dTick]
    have gt' : ∀ t ∈ ts.set i (ts[i].1, ts[i].2 ++ [s]), Gt t := fun t ht => by
      rcases mem_set ht with h | h
      · exact X.gt t h
      · rw [h]; exact hg
    have hcat : ts[i].2.length ≤ 99999 := by omega
    have bp := bench_put (i := i) X1.hb hl1 X.bq (by omega) X.h6 hi hg
    have ha4 : (nxt ws1 b q l "put" ts (ts.set i (ts[i].1, ts[i].2 ++ [s])))[a]? = some (.lst (ts.map dTick)) := by rw [nxt_o X.ab X.aq]; exact X1.ha
    refine ⟨.str "put", _, _, _, ?_, X1.next2 (w := "put") hl1 gt' (by
      intro e
      have := congrArg List.length e
      simp at this
      exact X.ne this) (by simp; exact X.h6), .inr ⟨"put", rfl, by decide +kernel, rfl⟩, by rw [List.length_set, nxt_len]; exact D1.len⟩
    simp only [m__law_edited, g__law_edited, N__law_edited, bodyM, startD, sSeq, sIfS, sB, sNot, sNotV, sAnd, sAndT, sOrT, sOp, sVar, sC, sRet, sExpr, sSet, sAsg, sPar, sAug, sCons, sNil, sTup, sLst, sCall, sCB, fb1, ↓RL.bind_m, R.ofO_some, R.ofO_none, R.ofO, List.map_cons, List.map_nil, List.length_cons, List.length_nil, List.cons_append, List.nil_append, List.append_nil, List.replicate, List.set_cons_zero, List.set_cons_succ, List.getElem?_cons_zero, List.getElem?_cons_succ, Option.bind_some, Option.map_some, Option.bind_none, Option.map_none, if_true, if_false, Bool.false_eq_true, decide_true, decide_false, Nat.reduceAdd, Nat.reduceSub, Bool.not_true, Bool.not_false, sIf, sYes, sNext, sBad, tgName, tgTup, tgCons, tgNil, tupOf, seqOf, lstOf, ↓reduceIte, Nat.zero_le, Nat.reduceLeDiff, ix_ts X.ha hi, eq_i, gLen, List.length_map, fLt, fI, hl6, e1, in_numss, hin, fCat, lstOf, hcat, tgItem, ha4, ix_nat hi, hset, sMeth, insB X1.hb, nd_put, bp]
    rw [fin_rtL (by rw [List.length_set, nxt_len]; exact D1.len)]
theorem atI_D {l : List (List Int)} {x : D} (h : x ∈ l.map dNums) : ∃ s, x = dNums s ∧ s ∈ l := by
  obtain ⟨s, hs, rfl⟩ := List.mem_map.mp h
  exact ⟨s, rfl, hs⟩
theorem edit_take (X : Sx S p a b q c oc j ws ts es) (hj : j + 100 ≤ 100000) (hn : es.length < 100000) {i : Nat} (hi : i < ts.length) (h0 : ts[i].2 ≠ []) :
    ∃ w ws' ts' es', m__law_edited [.cell p, .cell b, .cell a, .int 4, .int (i : Nat)] ws = .ok w ws' ∧ Sx S p a b q c oc (j + 100) ws' ts' es' ∧ Res ts w es es' ∧ ws'.length = ws.length := by
  have g0 := X.gt ts[i] (List.getElem_mem hi)
  obtain ⟨x, ws1, e1, D1, hx⟩ := pick (l := ts[i].2.map dNums) X.dr (by rw [List.length_map]; exact List.length_pos_iff.mpr h0) (by
    have := g0.2.2
    rw [List.length_map]
    omega) (by omega)
  obtain ⟨s, rfl, hs⟩ := atI_D hx
  have X1 := (X.of D1).up (j' := j + 100) (by omega)
  obtain ⟨l, hl1, hl2, hl3, _⟩ := X1.hq
  have hset : (ts.map dTick).set i (.tup [.bl ts[i].1, .lst ((ts[i].2.filter fun x => !decide (x = s)).map dNums)]) = (ts.set i (ts[i].1, ts[i].2.filter fun x => !decide (x = s))).map dTick := by
    rw [← map_set]
    simp [dTick]
  have gt' : ∀ t ∈ ts.set i (ts[i].1, ts[i].2.filter fun x => !decide (x = s)), Gt t := fun t ht => by
    rcases mem_set ht with h | h
    · exact X.gt t h
    · rw [h]; exact g0.filter s
  have bp := bench_take (i := i) X1.hb hl1 X.bq (by omega) X.h6 hi g0 hs
  have ha4 : (nxt ws1 b q l "take" ts (ts.set i (ts[i].1, ts[i].2.filter fun x => !decide (x = s))))[a]? = some (.lst (ts.map dTick)) := by rw [nxt_o X.ab X.aq]; exact X1.ha
  have z1 := lc_filt (src := none) (t := tgName 8) (c := sB (sOp fNeD (sVar 8) (sVar 7))) (el := sVar 8) (ρ := wipeD [some (D.cell p), some (.cell b), some (.cell a), some (.int 4), some (.int (i : Nat)), some (.bl ts[i].1), some (.lst (ts[i].2.map dNums)), some (dNums s), none, none, none, none] [8])
    (f := fun d => d) (p := fun d => !decide (d = dNums s)) (ws := nxt ws1 b q l "take" ts (ts.set i (ts[i].1, ts[i].2.filter fun x => !decide (x = s)))) (all := ts[i].2.map dNums) trivial (ts[i].2.map dNums) [] (by
      have := g0.2.2
      simp
      omega) (by
      intro d hd
      obtain ⟨t, ht, rfl⟩ := List.mem_map.mp hd
      have e : decide (dNums t = dNums s) = decide (t = s) := by
        apply decide_eq_decide.mpr
        constructor
        · intro h
          simp only [dNums, D.tup.injEq] at h
          exact List.map_inj_right (fun x y h => by cases h; rfl) |>.mp h
        · rintro rfl
          rfl
      refine ⟨_, rfl, ?_, ?_⟩
      · simp only [wipeD, bodyM, startD, sSeq, sIfS, sB, sNot, sNotV, sAnd, sAndT, sOrT, sOp, sVar, sC, sRet, sExpr, sSet, sAsg, sPar, sAug, sCons, sNil, sTup, sLst, sCall, sCB, fb1, ↓RL.bind_m, R.ofO_some, R.ofO_none, R.ofO, List.map_cons, List.map_nil, List.length_cons, List.length_nil, List.cons_append, List.nil_append, List.append_nil, List.replicate, List.set_cons_zero, List.set_cons_succ, List.getElem?_cons_zero, List.getElem?_cons_succ, Option.bind_some, Option.map_some, Option.bind_none, Option.map_none, if_true, if_false, Bool.false_eq_true, decide_true, decide_false, Nat.reduceAdd, Nat.reduceSub, Bool.not_true, Bool.not_false, sIf, sYes, sNext, sBad, tgName, tgTup, tgCons, tgNil, tupOf, seqOf, lstOf, ↓reduceIte, Nat.zero_le, Nat.reduceLeDiff, ne_nums, e]
      · simp only [wipeD, bodyM, startD, sSeq, sIfS, sB, sNot, sNotV, sAnd, sAndT, sOrT, sOp, sVar, sC, sRet, sExpr, sSet, sAsg, sPar, sAug, sCons, sNil, sTup, sLst, sCall, sCB, fb1, ↓RL.bind_m, R.ofO_some, R.ofO_none, R.ofO, List.map_cons, List.map_nil, List.length_cons, List.length_nil, List.cons_append, List.nil_append, List.append_nil, List.replicate, List.set_cons_zero, List.set_cons_succ, List.getElem?_cons_zero, List.getElem?_cons_succ, Option.bind_some, Option.map_some, Option.bind_none, Option.map_none, if_true, if_false, Bool.false_eq_true, decide_true, decide_false, Nat.reduceAdd, Nat.reduceSub, Bool.not_true, Bool.not_false, sIf, sYes, sNext, sBad, tgName, tgTup, tgCons, tgNil, tupOf, seqOf, lstOf, ↓reduceIte, Nat.zero_le, Nat.reduceLeDiff])
  have e2 : ((ts[i].2.map dNums).filter fun d => !decide (d = dNums s)).map (fun d => d) = (ts[i].2.filter fun x => !decide (x = s)).map dNums := by
    rw [List.map_id', List.filter_map]
    congr 1
    apply List.filter_congr
    intro t _
    have e : decide (dNums t = dNums s) = decide (t = s) := by
      apply decide_eq_decide.mpr
      constructor
      · intro h
        simp only [dNums, D.tup.injEq] at h
        exact List.map_inj_right (fun x y h => by cases h; rfl) |>.mp h
      · rintro rfl
        rfl
    simp only [Function.comp, e]
  rw [List.nil_append, e2] at z1
  refine ⟨.str "take", _, _, _, ?_, X1.next2 (w := "take") hl1 gt' (by
    intro e
    have := congrArg List.length e
    simp at this
    exact X.ne this) (by simp; exact X.h6), .inr ⟨"take", rfl, by decide +kernel, rfl⟩, by rw [List.length_set, nxt_len]; exact D1.len⟩
  have n43 : decide ((4 : Int) = 3) = false := rfl
  have nn : fNeD ws (.lst (ts[i].2.map dNums)) (.lst []) = some (.bl true) := by
    rw [ne_nil_numss]
    simp [h0]
  simp only [m__law_edited, g__law_edited, N__law_edited, bodyM, startD, sSeq, sIfS, sB, sNot, sNotV, sAnd, sAndT, sOrT, sOp, sVar, sC, sRet, sExpr, sSet, sAsg, sPar, sAug, sCons, sNil, sTup, sLst, sCall, sCB, fb1, ↓RL.bind_m, R.ofO_some, R.ofO_none, R.ofO, List.map_cons, List.map_nil, List.length_cons, List.length_nil, List.cons_append, List.nil_append, List.append_nil, List.replicate, List.set_cons_zero, List.set_cons_succ, List.getElem?_cons_zero, List.getElem?_cons_succ, Option.bind_some, Option.map_some, Option.bind_none, Option.map_none, if_true, if_false, Bool.false_eq_true, decide_true, decide_false, Nat.reduceAdd, Nat.reduceSub, Bool.not_true, Bool.not_false, sIf, sYes, sNext, sBad, tgName, tgTup, tgCons, tgNil, tupOf, seqOf, lstOf, ↓reduceIte, Nat.zero_le, Nat.reduceLeDiff, ix_ts X.ha hi, eq_i, n43, nn, e1, sLc, sLcG, fzL, sItL, itOf, z1, tgItem, ha4, List.length_map, ix_nat hi, hset, sMeth, insB X1.hb, nd_take, bp]
  rw [fin_rtL (by rw [List.length_set, nxt_len]; exact D1.len)]
theorem edit_turn (X : Sx S p a b q c oc j ws ts es) (hj : j + 100 ≤ 100000) (hn : es.length < 100000) {i : Nat} (hi : i < ts.length) :
    ∃ w ws' ts' es', m__law_edited [.cell p, .cell b, .cell a, .int 5, .int (i : Nat)] ws = .ok w ws' ∧ Sx S p a b q c oc (j + 100) ws' ts' es' ∧ Res ts w es es' ∧ ws'.length = ws.length := by
  obtain ⟨x, ws1, e1, D1, hx⟩ := pick (l := [.int 0, .int 1, .int 2, .int 3, .int 8, .int 77, .int 1000000000000000000000000000000]) X.dr (by simp) (by simp) (by omega)
  obtain ⟨m, rfl, hm⟩ : ∃ m : Int, x = .int m ∧ 0 ≤ m := by
    simp only [List.mem_cons, List.not_mem_nil, or_false] at hx
    rcases hx with rfl | rfl | rfl | rfl | rfl | rfl | rfl <;> exact ⟨_, rfl, by omega⟩
  have X1 := (X.of D1).up (j' := j + 100) (by omega)
  obtain ⟨l, hl1, hl2, hl3, _⟩ := X1.hq
  have lp : (0 : Int) < (ts.length : Int) := by omega
  have m0 : 0 ≤ m % (ts.length : Int) := Int.emod_nonneg _ (by omega)
  have m1 : m % (ts.length : Int) < (ts.length : Int) := Int.emod_lt_of_pos _ lp
  obtain ⟨k, hk⟩ : ∃ k : Nat, m % (ts.length : Int) = (k : Nat) := ⟨(m % (ts.length : Int)).toNat, by omega⟩
  have kl : k < ts.length := by omega
  have c1 : cutG (ts.map dTick) (some ((k : Nat) : Int)) none = (ts.drop k).map dTick := by
    simp only [cutG, HT.sIx_none, HT.sIx_nat, List.length_map, List.map_drop]
    rw [Nat.min_eq_left (by omega), List.take_of_length_le (by simp)]
  have c2 : cutG (ts.map dTick) none (some ((k : Nat) : Int)) = (ts.take k).map dTick := by
    simp only [cutG, HT.sIx_none, HT.sIx_nat, List.length_map, List.map_take, List.drop_zero, Nat.sub_zero]
    rw [Nat.min_eq_left (by omega)]
  have hr : (ts.drop k).map dTick ++ (ts.take k).map dTick = (rot ts k).map dTick := by simp [rot]
  have h6 := X.h6
  have hl : (rot ts k).length = ts.length := rot_len ts k (by omega)
  have bp := bench_turn (n := m) X1.hb hl1 X.bq (by omega) X.h6 X.ne hm
  rw [hk, Int.toNat_natCast] at bp
  have ha4 : (nxt ws1 b q l "turn" ts (rot ts k))[a]? = some (.lst (ts.map dTick)) := by rw [nxt_o X.ab X.aq]; exact X1.ha
  have gt' : ∀ t ∈ rot ts k, Gt t := fun t ht => by
    rcases List.mem_append.mp ht with h | h
    · exact X.gt t (List.mem_of_mem_drop h)
    · exact X.gt t (List.mem_of_mem_take h)
  refine ⟨.str "turn", _, _, _, ?_, X1.next2 (w := "turn") hl1 gt' (by
    intro e
    have := congrArg List.length e
    rw [hl] at this
    simp at this
    exact X.ne this) (by omega), .inr ⟨"turn", rfl, by decide +kernel, rfl⟩, by rw [List.length_set, nxt_len]; exact D1.len⟩
  have n53 : decide ((5 : Int) = 3) = false := rfl
  have n54 : decide ((5 : Int) = 4) = false := rfl
  have n55 : decide ((5 : Int) = 5) = true := rfl
  have p30 : ∀ ws : List Ce, fPow ws (.int 10) (.int 30) = some (.int 1000000000000000000000000000000) := fun ws => fPow_ok (k := 30) rfl (by omega) (by omega)
  have hcat : (ts.drop k).length + (ts.take k).length ≤ 100000 := by simp; omega
  have hlen : ts.length + (rot ts k).length ≤ 100000 := by omega
  simp only [m__law_edited, g__law_edited, N__law_edited, bodyM, startD, sSeq, sIfS, sB, sNot, sNotV, sAnd, sAndT, sOrT, sOp, sVar, sC, sRet, sExpr, sSet, sAsg, sPar, sAug, sCons, sNil, sTup, sLst, sCall, sCB, fb1, ↓RL.bind_m, R.ofO_some, R.ofO_none, R.ofO, List.map_cons, List.map_nil, List.length_cons, List.length_nil, List.cons_append, List.nil_append, List.append_nil, List.replicate, List.set_cons_zero, List.set_cons_succ, List.getElem?_cons_zero, List.getElem?_cons_succ, Option.bind_some, Option.map_some, Option.bind_none, Option.map_none, if_true, if_false, Bool.false_eq_true, decide_true, decide_false, Nat.reduceAdd, Nat.reduceSub, Bool.not_true, Bool.not_false, sIf, sYes, sNext, sBad, tgName, tgTup, tgCons, tgNil, tupOf, seqOf, lstOf, ↓reduceIte, Nat.zero_le, Nat.reduceLeDiff, ix_ts X.ha hi, eq_i, n53, n54, n55, p30, e1, gInt, gLen, ha4, List.length_map, fMod, fI, lp, hk, sSlice, soNone, soSome, lstOf, c1, c2, fCat, hcat, hr, tgAll, hlen, sMeth, insB X1.hb, nd_turn, bp]
  rw [fin_rtL (by rw [List.length_set, nxt_len]; exact D1.len)]
theorem edit_rep (X : Sx S p a b q c oc j ws ts es) (hj : j + 100 ≤ 100000) (hn : es.length < 100000) {i : Nat} (hi : i < ts.length) :
    ∃ w ws' ts' es', m__law_edited [.cell p, .cell b, .cell a, .int 6, .int (i : Nat)] ws = .ok w ws' ∧ Sx S p a b q c oc (j + 100) ws' ts' es' ∧ Res ts w es es' ∧ ws'.length = ws.length := by
  obtain ⟨d, ws1, e1, D1, b1, b2⟩ := drw X.dr (n := 4) (by omega) (by omega) (by omega)
  obtain ⟨m, hm⟩ : ∃ m : Nat, d = (m : Nat) := ⟨d.toNat, by omega⟩
  subst hm
  obtain ⟨ts', ws2, z1, D2, g1, g2⟩ := plan1 (tg := tgName 11) (el := sCall m__law_tick (sCons (sVar 0) sNil)) (ρ := wipeD [some (D.cell p), some (.cell b), some (.cell a), some (.int 6), some (.int (i : Nat)), some (.bl ts[i].1), some (.lst (ts[i].2.map dNums)), none, none, none, none, none] [11])
    (all := intsD 0 (1 + (m : Int)).toNat) (p := p) (by
      intro d w
      refine ⟨_, rfl, ?_⟩
      simp only [wipeD, bodyM, startD, sSeq, sIfS, sB, sNot, sNotV, sAnd, sAndT, sOrT, sOp, sVar, sC, sRet, sExpr, sSet, sAsg, sPar, sAug, sCons, sNil, sTup, sLst, sCall, sCB, fb1, ↓RL.bind_m, R.ofO_some, R.ofO_none, R.ofO, List.map_cons, List.map_nil, List.length_cons, List.length_nil, List.cons_append, List.nil_append, List.append_nil, List.replicate, List.set_cons_zero, List.set_cons_succ, List.getElem?_cons_zero, List.getElem?_cons_succ, Option.bind_some, Option.map_some, Option.bind_none, Option.map_none, if_true, if_false, Bool.false_eq_true, decide_true, decide_false, Nat.reduceAdd, Nat.reduceSub, Bool.not_true, Bool.not_false, sIf, sYes, sNext, sBad, tgName, tgTup, tgCons, tgNil, tupOf, seqOf, lstOf, ↓reduceIte, Nat.zero_le, Nat.reduceLeDiff]) D1 (ds := intsD 0 (1 + (m : Int)).toNat) (by rw [intsD_len]; omega) (by omega)
  have X1 := (X.of D2).up (j' := j + 100) (by omega)
  obtain ⟨l, hl1, hl2, hl3, _⟩ := X1.hq
  have hts : ts'.length = 1 + m := by rw [g2, intsD_len]; omega
  have hne : ts' ≠ [] := by
    intro e
    rw [e] at hts
    simp at hts
    omega
  have hb2 : (ws2.set a (.lst (ts'.map dTick)))[b]? = some (bn ts q) := by rw [List.getElem?_set_ne X.ab]; exact X1.hb
  have hq2 : (ws2.set a (.lst (ts'.map dTick)))[q]? = some (.lst l) := by rw [List.getElem?_set_ne X.aq]; exact hl1
  have ha2 : (ws2.set a (.lst (ts'.map dTick)))[a]? = some (.lst (ts'.map dTick)) := set_at X1.ha
  have bp := bench_replace (ns' := ts') hb2 hq2 X.bq (by omega)
  have pt := law_plan_text ha2 g1 (by omega)
  have pr := plan_read (ws := ws2.set a (.lst (ts'.map dTick))) hne g1 (by omega)
  refine ⟨.str "replace", _, _, _, ?_, X1.next1 (w := "replace") hl1 g1 hne (by omega), .inr ⟨"replace", rfl, by decide +kernel, rfl⟩, by rw [nxt_len, List.length_set]; exact D2.len⟩
  have n63 : decide ((6 : Int) = 3) = false := rfl
  have n64 : decide ((6 : Int) = 4) = false := rfl
  have n65 : decide ((6 : Int) = 5) = false := rfl
  have n66 : decide ((6 : Int) = 6) = true := rfl
  have h6 := X.h6
  have hr1 : (-1000000 : Int) ≤ 1 + (m : Int) ∧ 1 + (m : Int) ≤ 1000000 := by omega
  have hlen : ts.length + ts'.length ≤ 100000 := by omega
  simp only [m__law_edited, g__law_edited, N__law_edited, bodyM, startD, sSeq, sIfS, sB, sNot, sNotV, sAnd, sAndT, sOrT, sOp, sVar, sC, sRet, sExpr, sSet, sAsg, sPar, sAug, sCons, sNil, sTup, sLst, sCall, sCB, fb1, ↓RL.bind_m, R.ofO_some, R.ofO_none, R.ofO, List.map_cons, List.map_nil, List.length_cons, List.length_nil, List.cons_append, List.nil_append, List.append_nil, List.replicate, List.set_cons_zero, List.set_cons_succ, List.getElem?_cons_zero, List.getElem?_cons_succ, Option.bind_some, Option.map_some, Option.bind_none, Option.map_none, if_true, if_false, Bool.false_eq_true, decide_true, decide_false, Nat.reduceAdd, Nat.reduceSub, Bool.not_true, Bool.not_false, sIf, sYes, sNext, sBad, tgName, tgTup, tgCons, tgNil, tupOf, seqOf, lstOf, ↓reduceIte, Nat.zero_le, Nat.reduceLeDiff, ix_ts X.ha hi, eq_i, n63, n64, n65, n66, e1, fAdd, fI, sLc, sLcG, fzL, sItR1, hr1, and_self, z1, tgAll, X1.ha, List.length_map, hlen, sMeth, insB hb2, nd_rep, sCm, pt, pr, bp]
  rw [fin_rtL (by rw [nxt_len, List.length_set]; exact D2.len)]
end
end K81
set_option Elab.async false
set_option linter.all false
set_option maxRecDepth 100000
set_option maxHeartbeats 4000000
namespace K81
open RL PySem L2 TL
section
variable {S : List Int} {p a b q c : Nat} {oc : Ce} {es : List (Str × List Tk)} {j j' : Int} {ws ws' ws0 : List Ce} {ts ts' : List Tk}
theorem bodyM_eq {kp : Bool} {np : Nat} {N : List Str} {g : Ss} {ds : List D} (h : ds.length = np) : bodyM kp np N g ds ws = fin kp ws (g (startD N ds) ws) := if_pos h
theorem edited (X : Sx S p a b q c oc j ws ts es) (hj : j + 100 ≤ 100000) (hn : es.length < 100000) {i : Nat} (hi : i < ts.length) {way : Int} :
    ∃ w ws' ts' es', m__law_edited [.cell p, .cell b, .cell a, .int way, .int (i : Nat)] ws = .ok w ws' ∧ Sx S p a b q c oc (j + 100) ws' ts' es' ∧ Res ts w es es' ∧ ws'.length = ws.length := by
  have non : (∀ x, sAndT (sB (sOp fEqS (sVar 3) (sC (.int 3)))) (sB (sOp fLt (sCB (fb1 gLen) (sCons (sVar 6) sNil)) (sC (.int 6)))) [some (D.cell p), some (.cell b), some (.cell a), some (.int way), some (.int (i : Nat)), some (.bl ts[i].1), some (.lst (ts[i].2.map dNums)), x, none, none, none, none] ws = .ok false ws) →
      (∀ x, sAndT (sB (sOp fEqS (sVar 3) (sC (.int 4)))) (sB (sOp fNeD (sVar 6) (sLst sNil))) [some (D.cell p), some (.cell b), some (.cell a), some (.int way), some (.int (i : Nat)), some (.bl ts[i].1), some (.lst (ts[i].2.map dNums)), x, none, none, none, none] ws = .ok false ws) → way ≠ 5 → way ≠ 6 →
      ∃ w ws' ts' es', m__law_edited [.cell p, .cell b, .cell a, .int way, .int (i : Nat)] ws = .ok w ws' ∧ Sx S p a b q c oc (j + 100) ws' ts' es' ∧ Res ts w es es' ∧ ws'.length = ws.length := by
    intro h3 h4 h5 h6
    refine ⟨.non, ws, ts, es, ?_, X.up (by omega), .inl ⟨rfl, rfl⟩, rfl⟩
    have d5 : decide (way = 5) = false := by simp [h5]
    have d6 : decide (way = 6) = false := by simp [h6]
    unfold m__law_edited g__law_edited N__law_edited
    refine (bodyM_eq (by rfl)).trans ?_
    generalize e3 : sAndT (sB (sOp fEqS (sVar 3) (sC (.int 3)))) (sB (sOp fLt (sCB (fb1 gLen) (sCons (sVar 6) sNil)) (sC (.int 6)))) = t3 at h3 ⊢
    generalize e4 : sAndT (sB (sOp fEqS (sVar 3) (sC (.int 4)))) (sB (sOp fNeD (sVar 6) (sLst sNil))) = t4 at h4 ⊢
    simp only [bodyM, startD, sSeq, sIfS, sB, sNot, sNotV, sAnd, sAndT, sOrT, sOp, sVar, sC, sRet, sExpr, sSet, sAsg, sPar, sAug, sCons, sNil, sTup, sLst, sCall, sCB, fb1, ↓RL.bind_m, R.ofO_some, R.ofO_none, R.ofO, List.map_cons, List.map_nil, List.length_cons, List.length_nil, List.cons_append, List.nil_append, List.append_nil, List.replicate, List.set_cons_zero, List.set_cons_succ, List.getElem?_cons_zero, List.getElem?_cons_succ, Option.bind_some, Option.map_some, Option.bind_none, Option.map_none, if_true, if_false, Bool.false_eq_true, decide_true, decide_false, Nat.reduceAdd, Nat.reduceSub, Bool.not_true, Bool.not_false, sIf, sYes, sNext, sBad, tgName, tgTup, tgCons, tgNil, tupOf, seqOf, lstOf, ↓reduceIte, Nat.zero_le, Nat.reduceLeDiff, ix_ts X.ha hi, eq_i, h3, h4, d5, d6]
    rw [fin_rt]
  by_cases w3 : way = 3
  · subst w3
    by_cases h6 : ts[i].2.length < 6
    · exact edit_put X hj hn hi h6
    · refine non (fun x => ?_) (fun x => ?_) (by decide) (by decide)
      · have : ¬ ((ts[i].2.length : Nat) : Int) < 6 := by omega
        simp only [bodyM, startD, sSeq, sIfS, sB, sNot, sNotV, sAnd, sAndT, sOrT, sOp, sVar, sC, sRet, sExpr, sSet, sAsg, sPar, sAug, sCons, sNil, sTup, sLst, sCall, sCB, fb1, ↓RL.bind_m, R.ofO_some, R.ofO_none, R.ofO, List.map_cons, List.map_nil, List.length_cons, List.length_nil, List.cons_append, List.nil_append, List.append_nil, List.replicate, List.set_cons_zero, List.set_cons_succ, List.getElem?_cons_zero, List.getElem?_cons_succ, Option.bind_some, Option.map_some, Option.bind_none, Option.map_none, if_true, if_false, Bool.false_eq_true, decide_true, decide_false, Nat.reduceAdd, Nat.reduceSub, Bool.not_true, Bool.not_false, sIf, sYes, sNext, sBad, tgName, tgTup, tgCons, tgNil, tupOf, seqOf, lstOf, ↓reduceIte, Nat.zero_le, Nat.reduceLeDiff, eq_i, gLen, List.length_map, fLt, fI, this]
      · have n34 : decide ((3 : Int) = 4) = false := rfl
        simp only [bodyM, startD, sSeq, sIfS, sB, sNot, sNotV, sAnd, sAndT, sOrT, sOp, sVar, sC, sRet, sExpr, sSet, sAsg, sPar, sAug, sCons, sNil, sTup, sLst, sCall, sCB, fb1, ↓RL.bind_m, R.ofO_some, R.ofO_none, R.ofO, List.map_cons, List.map_nil, List.length_cons, List.length_nil, List.cons_append, List.nil_append, List.append_nil, List.replicate, List.set_cons_zero, List.set_cons_succ, List.getElem?_cons_zero, List.getElem?_cons_succ, Option.bind_some, Option.map_some, Option.bind_none, Option.map_none, if_true, if_false, Bool.false_eq_true, decide_true, decide_false, Nat.reduceAdd, Nat.reduceSub, Bool.not_true, Bool.not_false, sIf, sYes, sNext, sBad, tgName, tgTup, tgCons, tgNil, tupOf, seqOf, lstOf, ↓reduceIte, Nat.zero_le, Nat.reduceLeDiff, eq_i, n34]
  · have d3 : decide (way = 3) = false := by simp [w3]
    have k3 : ∀ x, sAndT (sB (sOp fEqS (sVar 3) (sC (.int 3)))) (sB (sOp fLt (sCB (fb1 gLen) (sCons (sVar 6) sNil)) (sC (.int 6)))) [some (D.cell p), some (.cell b), some (.cell a), some (.int way), some (.int (i : Nat)), some (.bl ts[i].1), some (.lst (ts[i].2.map dNums)), x, none, none, none, none] ws = .ok false ws := fun x => by
      simp only [bodyM, startD, sSeq, sIfS, sB, sNot, sNotV, sAnd, sAndT, sOrT, sOp, sVar, sC, sRet, sExpr, sSet, sAsg, sPar, sAug, sCons, sNil, sTup, sLst, sCall, sCB, fb1, ↓RL.bind_m, R.ofO_some, R.ofO_none, R.ofO, List.map_cons, List.map_nil, List.length_cons, List.length_nil, List.cons_append, List.nil_append, List.append_nil, List.replicate, List.set_cons_zero, List.set_cons_succ, List.getElem?_cons_zero, List.getElem?_cons_succ, Option.bind_some, Option.map_some, Option.bind_none, Option.map_none, if_true, if_false, Bool.false_eq_true, decide_true, decide_false, Nat.reduceAdd, Nat.reduceSub, Bool.not_true, Bool.not_false, sIf, sYes, sNext, sBad, tgName, tgTup, tgCons, tgNil, tupOf, seqOf, lstOf, ↓reduceIte, Nat.zero_le, Nat.reduceLeDiff, eq_i, d3]
    by_cases w4 : way = 4
    · subst w4
      by_cases h0 : ts[i].2 = []
      · refine non k3 (fun x => ?_) (by decide) (by decide)
        have nn : fNeD ws (.lst (ts[i].2.map dNums)) (.lst []) = some (.bl false) := by
          rw [ne_nil_numss]
          simp [h0]
        have n44 : decide ((4 : Int) = 4) = true := rfl
        simp only [bodyM, startD, sSeq, sIfS, sB, sNot, sNotV, sAnd, sAndT, sOrT, sOp, sVar, sC, sRet, sExpr, sSet, sAsg, sPar, sAug, sCons, sNil, sTup, sLst, sCall, sCB, fb1, ↓RL.bind_m, R.ofO_some, R.ofO_none, R.ofO, List.map_cons, List.map_nil, List.length_cons, List.length_nil, List.cons_append, List.nil_append, List.append_nil, List.replicate, List.set_cons_zero, List.set_cons_succ, List.getElem?_cons_zero, List.getElem?_cons_succ, Option.bind_some, Option.map_some, Option.bind_none, Option.map_none, if_true, if_false, Bool.false_eq_true, decide_true, decide_false, Nat.reduceAdd, Nat.reduceSub, Bool.not_true, Bool.not_false, sIf, sYes, sNext, sBad, tgName, tgTup, tgCons, tgNil, tupOf, seqOf, lstOf, ↓reduceIte, Nat.zero_le, Nat.reduceLeDiff, eq_i, n44, nn]
      · exact edit_take X hj hn hi h0
    · have d4 : decide (way = 4) = false := by simp [w4]
      have k4 : ∀ x, sAndT (sB (sOp fEqS (sVar 3) (sC (.int 4)))) (sB (sOp fNeD (sVar 6) (sLst sNil))) [some (D.cell p), some (.cell b), some (.cell a), some (.int way), some (.int (i : Nat)), some (.bl ts[i].1), some (.lst (ts[i].2.map dNums)), x, none, none, none, none] ws = .ok false ws := fun x => by
        simp only [bodyM, startD, sSeq, sIfS, sB, sNot, sNotV, sAnd, sAndT, sOrT, sOp, sVar, sC, sRet, sExpr, sSet, sAsg, sPar, sAug, sCons, sNil, sTup, sLst, sCall, sCB, fb1, ↓RL.bind_m, R.ofO_some, R.ofO_none, R.ofO, List.map_cons, List.map_nil, List.length_cons, List.length_nil, List.cons_append, List.nil_append, List.append_nil, List.replicate, List.set_cons_zero, List.set_cons_succ, List.getElem?_cons_zero, List.getElem?_cons_succ, Option.bind_some, Option.map_some, Option.bind_none, Option.map_none, if_true, if_false, Bool.false_eq_true, decide_true, decide_false, Nat.reduceAdd, Nat.reduceSub, Bool.not_true, Bool.not_false, sIf, sYes, sNext, sBad, tgName, tgTup, tgCons, tgNil, tupOf, seqOf, lstOf, ↓reduceIte, Nat.zero_le, Nat.reduceLeDiff, eq_i, d4]
      by_cases w5 : way = 5
      · subst w5
        exact edit_turn X hj hn hi
      · by_cases w6 : way = 6
        · subst w6
          exact edit_rep X hj hn hi
        · exact non k3 k4 w5 w6
theorem deed (X : Sx S p a b q c oc j ws ts es) (hj : j + 200 ≤ 100000) (hn : es.length < 100000) :
    ∃ w ws' ts' es', m__law_deed [.cell p, .cell b, .cell a] ws = .ok w ws' ∧ Sx S p a b q c oc (j + 200) ws' ts' es' ∧ Res ts w es es' ∧ ws'.length = ws.length := by
  have h6 := X.h6
  have hp := List.length_pos_iff.mpr X.ne
  obtain ⟨way, ws1, e1, D1, b1, b2⟩ := drw X.dr (n := 7) (by omega) (by omega) (by omega)
  obtain ⟨d, ws2, e2, D2, c1, c2⟩ := drw D1 (n := (ts.length : Int)) (by omega) (by omega) (by omega)
  obtain ⟨t, ws3, e3, D3, gt⟩ := tick1 D2 (by omega)
  obtain ⟨i, rfl⟩ : ∃ i : Nat, d = (i : Nat) := ⟨d.toNat, by omega⟩
  have hi : i < ts.length := by omega
  have ha1 : ws1[a]? = some (.lst (ts.map dTick)) := by rw [D1.at (Ne.symm X.pa)]; exact X.ha
  have X3 := (X.of D3).up (j' := j + 100) (by omega)
  obtain ⟨l, hl1, hl2, hl3, _⟩ := X3.hq
  have tt := law_tick_text (ws := ws3) gt
  have tr := tick_read (ws := ws3) gt
  have la := lt_of X3.ha
  have lb := lt_of X3.hb
  have lq := lt_of hl1
  by_cases w0 : way = 0 ∧ ts.length < 6
  · obtain ⟨w0, k6⟩ := w0
    subst w0
    have hset : ts.map dTick ++ [dTick t] = (ts ++ [t]).map dTick := by simp
    have hb2 : (ws3.set a (.lst ((ts ++ [t]).map dTick)))[b]? = some (bn ts q) := by rw [List.getElem?_set_ne X.ab]; exact X3.hb
    have hq2 : (ws3.set a (.lst ((ts ++ [t]).map dTick)))[q]? = some (.lst l) := by rw [List.getElem?_set_ne X.aq]; exact hl1
    have bp := bench_add (t := t) hb2 hq2 X.bq (by omega) k6
    have gt' : ∀ x ∈ ts ++ [t], Gt x := fun x hx => by
      rcases List.mem_append.mp hx with h | h
      · exact X.gt x h
      · rw [List.mem_singleton] at h
        subst h
        exact gt
    have XN := (X3.next1 (w := "add") hl1 gt' (by simp) (by simp; omega)).up (j' := j + 200) (by omega)
    have ha4 := XN.ha
    refine ⟨.str "add", _, _, _, ?_, XN, .inr ⟨"add", rfl, by decide +kernel, rfl⟩, by rw [nxt_len, List.length_set]; exact D3.len⟩
    have i6 : (ts.length : Int) < 6 := by omega
    have hl5 : ts.length < 100000 := by omega
    have n00 : decide ((0 : Int) = 0) = true := rfl
    have hm : (((ts ++ [t]).length : Nat) : Int) - 1 = (ts.length : Nat) := by simp
    simp only [m__law_deed, g__law_deed, N__law_deed, bodyM, startD, sSeq, sIfS, sB, sNot, sNotV, sAnd, sAndT, sOrT, sOp, sVar, sC, sRet, sExpr, sSet, sAsg, sPar, sAug, sCons, sNil, sTup, sLst, sCall, sCB, fb1, ↓RL.bind_m, R.ofO_some, R.ofO_none, R.ofO, List.map_cons, List.map_nil, List.length_cons, List.length_nil, List.cons_append, List.nil_append, List.append_nil, List.replicate, List.set_cons_zero, List.set_cons_succ, List.getElem?_cons_zero, List.getElem?_cons_succ, Option.bind_some, Option.map_some, Option.bind_none, Option.map_none, if_true, if_false, Bool.false_eq_true, decide_true, decide_false, Nat.reduceAdd, Nat.reduceSub, Bool.not_true, Bool.not_false, sIf, sYes, sNext, sBad, tgName, tgTup, tgCons, tgNil, tupOf, seqOf, lstOf, ↓reduceIte, Nat.zero_le, Nat.reduceLeDiff, e1, gLen, ha1, List.length_map, e2, e3, sCm, tt, tr, eq_i, n00, X3.ha, fLt, fI, i6, sMB, isTy, beq_self_eq_true, fmAppend, hl5, hset, sMeth, insB hb2, nd_add, bp, ha4, fSub, hm]
    rw [fin_rtL (by rw [nxt_len, List.length_set]; exact D3.len)]
  · by_cases w1 : way = 1 ∧ 1 < ts.length
    · obtain ⟨w1, k1⟩ := w1
      subst w1
      have bp := bench_drop (i := i) X3.hb hl1 X.bq (by omega) X.h6 hi k1 (hl3 _)
      have gt' : ∀ x ∈ ts.eraseIdx i, Gt x := fun x hx => X.gt x (List.mem_of_mem_eraseIdx hx)
      have le : (ts.eraseIdx i).length + 1 = ts.length := by
        rw [List.length_eraseIdx_of_lt hi]
        omega
      have XN := (X3.next2 (w := "drop") hl1 gt' (by
        intro e
        rw [e] at le
        simp at le
        omega) (by omega)).up (j' := j + 200) (by omega)
      have ha4 : (nxt ws3 b q l "drop" ts (ts.eraseIdx i))[a]? = some (.lst (ts.map dTick)) := by rw [nxt_o X.ab X.aq]; exact X3.ha
      have gi := X.gt ts[i] (List.getElem_mem hi)
      have ts1 := tick_str (ws := nxt ws3 b q l "drop" ts (ts.eraseIdx i)) gi
      have ts2 := law_tick_text (ws := (nxt ws3 b q l "drop" ts (ts.eraseIdx i)).set a (.lst ((ts.eraseIdx i).map dTick))) gi
      have si : seqIndex? ((i : Nat) : Int) ts.length = some i := by
        rw [seqIndex_of (by omega) (by omega), Int.toNat_natCast]
      have gi2 : (ts.map dTick)[i]? = some (dTick ts[i]) := by simp [hi]
      have ei : (ts.map dTick).eraseIdx i = (ts.eraseIdx i).map dTick := erase_map dTick ts i
      have r1 : (-1000000 : Int) ≤ (i : Int) ∧ (i : Int) ≤ 1000000 := by omega
      have i6 : (1 : Int) < (ts.length : Int) := by omega
      have n10 : decide ((1 : Int) = 0) = false := rfl
      have n11 : decide ((1 : Int) = 1) = true := rfl
      have es : fEqS ((nxt ws3 b q l "drop" ts (ts.eraseIdx i)).set a (.lst ((ts.eraseIdx i).map dTick))) (.str (tText ts[i])) (.str (tText ts[i])) = some (.bl true) := by simp [fEqS, scalEq]
      refine ⟨.str "drop", _, _, _, ?_, XN, .inr ⟨"drop", rfl, by decide +kernel, rfl⟩, by rw [List.length_set, nxt_len]; exact D3.len⟩
      simp only [m__law_deed, g__law_deed, N__law_deed, bodyM, startD, sSeq, sIfS, sB, sNot, sNotV, sAnd, sAndT, sOrT, sOp, sVar, sC, sRet, sExpr, sSet, sAsg, sPar, sAug, sCons, sNil, sTup, sLst, sCall, sCB, fb1, ↓RL.bind_m, R.ofO_some, R.ofO_none, R.ofO, List.map_cons, List.map_nil, List.length_cons, List.length_nil, List.cons_append, List.nil_append, List.append_nil, List.replicate, List.set_cons_zero, List.set_cons_succ, List.getElem?_cons_zero, List.getElem?_cons_succ, Option.bind_some, Option.map_some, Option.bind_none, Option.map_none, if_true, if_false, Bool.false_eq_true, decide_true, decide_false, Nat.reduceAdd, Nat.reduceSub, Bool.not_true, Bool.not_false, sIf, sYes, sNext, sBad, tgName, tgTup, tgCons, tgNil, tupOf, seqOf, lstOf, ↓reduceIte, Nat.zero_le, Nat.reduceLeDiff, e1, gLen, ha1, List.length_map, e2, e3, sCm, tt, tr, eq_i, n10, n11, X3.ha, fGt, fI, i6, sMB, isTy, beq_self_eq_true, sMeth, insB X3.hb, nd_drop, bp, sStrO, isT, ts1, ha4, fmPop, r1, and_self, si, gi2, ei, ts2, es]
      rw [fin_rtL (by rw [List.length_set, nxt_len]; exact D3.len)]
    · by_cases w2 : way = 2
      · subst w2
        have bp := bench_set (t := t) (i := i) X3.hb hl1 X.bq (by omega) X.h6 hi
        have hset : (ts.map dTick).set i (dTick t) = (ts.set i t).map dTick := map_set ..
        have gt' : ∀ x ∈ ts.set i t, Gt x := fun x hx => by
          rcases mem_set hx with h | h
          · exact X.gt x h
          · rw [h]; exact gt
        have XN := (X3.next2 (w := "set") hl1 gt' (by
          intro e
          have := congrArg List.length e
          simp at this
          exact X.ne this) (by simp; exact X.h6)).up (j' := j + 200) (by omega)
        have ha4 : (nxt ws3 b q l "set" ts (ts.set i t))[a]? = some (.lst (ts.map dTick)) := by rw [nxt_o X.ab X.aq]; exact X3.ha
        have lset : m__law_set [.cell b, .int (i : Nat), oTick t] ws3 = .ok .non (nxt ws3 b q l "set" ts (ts.set i t)) := by
          simp only [m__law_set, g__law_set, N__law_set, bodyM, startD, sSeq, sIfS, sB, sNot, sNotV, sAnd, sAndT, sOrT, sOp, sVar, sC, sRet, sExpr, sSet, sAsg, sPar, sAug, sCons, sNil, sTup, sLst, sCall, sCB, fb1, ↓RL.bind_m, R.ofO_some, R.ofO_none, R.ofO, List.map_cons, List.map_nil, List.length_cons, List.length_nil, List.cons_append, List.nil_append, List.append_nil, List.replicate, List.set_cons_zero, List.set_cons_succ, List.getElem?_cons_zero, List.getElem?_cons_succ, Option.bind_some, Option.map_some, Option.bind_none, Option.map_none, if_true, if_false, Bool.false_eq_true, decide_true, decide_false, Nat.reduceAdd, Nat.reduceSub, Bool.not_true, Bool.not_false, sIf, sYes, sNext, sBad, tgName, tgTup, tgCons, tgNil, tupOf, seqOf, lstOf, ↓reduceIte, Nat.zero_le, Nat.reduceLeDiff, tgItemO, isB X3.hb, bp]
          rw [fin_nxL nxt_len]
        have n20 : decide ((2 : Int) = 0) = false := rfl
        have n21 : decide ((2 : Int) = 1) = false := rfl
        have n22 : decide ((2 : Int) = 2) = true := rfl
        refine ⟨.str "set", _, _, _, ?_, XN, .inr ⟨"set", rfl, by decide +kernel, rfl⟩, by rw [List.length_set, nxt_len]; exact D3.len⟩
        simp only [m__law_deed, g__law_deed, N__law_deed, bodyM, startD, sSeq, sIfS, sB, sNot, sNotV, sAnd, sAndT, sOrT, sOp, sVar, sC, sRet, sExpr, sSet, sAsg, sPar, sAug, sCons, sNil, sTup, sLst, sCall, sCB, fb1, ↓RL.bind_m, R.ofO_some, R.ofO_none, R.ofO, List.map_cons, List.map_nil, List.length_cons, List.length_nil, List.cons_append, List.nil_append, List.append_nil, List.replicate, List.set_cons_zero, List.set_cons_succ, List.getElem?_cons_zero, List.getElem?_cons_succ, Option.bind_some, Option.map_some, Option.bind_none, Option.map_none, if_true, if_false, Bool.false_eq_true, decide_true, decide_false, Nat.reduceAdd, Nat.reduceSub, Bool.not_true, Bool.not_false, sIf, sYes, sNext, sBad, tgName, tgTup, tgCons, tgNil, tupOf, seqOf, lstOf, ↓reduceIte, Nat.zero_le, Nat.reduceLeDiff, e1, gLen, ha1, List.length_map, e2, e3, sCm, tt, tr, eq_i, n20, n21, n22, lset, tgItem, ha4, ix_nat hi, hset]
        rw [fin_rtL (by rw [List.length_set, nxt_len]; exact D3.len)]
      · obtain ⟨w, ws4, ts4, n4, e4, X4, r4, l4⟩ := edited X3 (by omega) hn hi (way := way)
        refine ⟨w, ws4, ts4, n4, ?_, X4.up (by omega), r4, l4.trans D3.len⟩
        have d2 : decide (way = 2) = false := by simp [w2]
        have t0 : ∀ x : Option D, sAndT (sB (sOp fEqS (sVar 3) (sC (.int 0)))) (sB (sOp fLt (sCB (fb1 gLen) (sCons (sVar 2) sNil)) (sC (.int 6)))) [some (D.cell p), some (.cell b), some (.cell a), some (.int way), some (.int (i : Nat)), some (dTick t), some (oTick t), x] ws3 = .ok false ws3 := fun x => by
          by_cases h : way = 0
          · have i6 : ¬ (ts.length : Int) < 6 := fun z => w0 ⟨h, by omega⟩
            have d0 : decide (way = 0) = true := by simp [h]
            simp only [bodyM, startD, sSeq, sIfS, sB, sNot, sNotV, sAnd, sAndT, sOrT, sOp, sVar, sC, sRet, sExpr, sSet, sAsg, sPar, sAug, sCons, sNil, sTup, sLst, sCall, sCB, fb1, ↓RL.bind_m, R.ofO_some, R.ofO_none, R.ofO, List.map_cons, List.map_nil, List.length_cons, List.length_nil, List.cons_append, List.nil_append, List.append_nil, List.replicate, List.set_cons_zero, List.set_cons_succ, List.getElem?_cons_zero, List.getElem?_cons_succ, Option.bind_some, Option.map_some, Option.bind_none, Option.map_none, if_true, if_false, Bool.false_eq_true, decide_true, decide_false, Nat.reduceAdd, Nat.reduceSub, Bool.not_true, Bool.not_false, sIf, sYes, sNext, sBad, tgName, tgTup, tgCons, tgNil, tupOf, seqOf, lstOf, ↓reduceIte, Nat.zero_le, Nat.reduceLeDiff, eq_i, d0, gLen, X3.ha, List.length_map, fLt, fI, i6]
          · have d0 : decide (way = 0) = false := by simp [h]
            simp only [bodyM, startD, sSeq, sIfS, sB, sNot, sNotV, sAnd, sAndT, sOrT, sOp, sVar, sC, sRet, sExpr, sSet, sAsg, sPar, sAug, sCons, sNil, sTup, sLst, sCall, sCB, fb1, ↓RL.bind_m, R.ofO_some, R.ofO_none, R.ofO, List.map_cons, List.map_nil, List.length_cons, List.length_nil, List.cons_append, List.nil_append, List.append_nil, List.replicate, List.set_cons_zero, List.set_cons_succ, List.getElem?_cons_zero, List.getElem?_cons_succ, Option.bind_some, Option.map_some, Option.bind_none, Option.map_none, if_true, if_false, Bool.false_eq_true, decide_true, decide_false, Nat.reduceAdd, Nat.reduceSub, Bool.not_true, Bool.not_false, sIf, sYes, sNext, sBad, tgName, tgTup, tgCons, tgNil, tupOf, seqOf, lstOf, ↓reduceIte, Nat.zero_le, Nat.reduceLeDiff, eq_i, d0]
        have t1 : ∀ x : Option D, sAndT (sB (sOp fEqS (sVar 3) (sC (.int 1)))) (sB (sOp fGt (sCB (fb1 gLen) (sCons (sVar 2) sNil)) (sC (.int 1)))) [some (D.cell p), some (.cell b), some (.cell a), some (.int way), some (.int (i : Nat)), some (dTick t), some (oTick t), x] ws3 = .ok false ws3 := fun x => by
          by_cases h : way = 1
          · have i6 : ¬ (1 : Int) < (ts.length : Int) := fun z => w1 ⟨h, by omega⟩
            have d0 : decide (way = 1) = true := by simp [h]
            simp only [bodyM, startD, sSeq, sIfS, sB, sNot, sNotV, sAnd, sAndT, sOrT, sOp, sVar, sC, sRet, sExpr, sSet, sAsg, sPar, sAug, sCons, sNil, sTup, sLst, sCall, sCB, fb1, ↓RL.bind_m, R.ofO_some, R.ofO_none, R.ofO, List.map_cons, List.map_nil, List.length_cons, List.length_nil, List.cons_append, List.nil_append, List.append_nil, List.replicate, List.set_cons_zero, List.set_cons_succ, List.getElem?_cons_zero, List.getElem?_cons_succ, Option.bind_some, Option.map_some, Option.bind_none, Option.map_none, if_true, if_false, Bool.false_eq_true, decide_true, decide_false, Nat.reduceAdd, Nat.reduceSub, Bool.not_true, Bool.not_false, sIf, sYes, sNext, sBad, tgName, tgTup, tgCons, tgNil, tupOf, seqOf, lstOf, ↓reduceIte, Nat.zero_le, Nat.reduceLeDiff, eq_i, d0, gLen, X3.ha, List.length_map, fGt, fI, i6]
          · have d0 : decide (way = 1) = false := by simp [h]
            simp only [bodyM, startD, sSeq, sIfS, sB, sNot, sNotV, sAnd, sAndT, sOrT, sOp, sVar, sC, sRet, sExpr, sSet, sAsg, sPar, sAug, sCons, sNil, sTup, sLst, sCall, sCB, fb1, ↓RL.bind_m, R.ofO_some, R.ofO_none, R.ofO, List.map_cons, List.map_nil, List.length_cons, List.length_nil, List.cons_append, List.nil_append, List.append_nil, List.replicate, List.set_cons_zero, List.set_cons_succ, List.getElem?_cons_zero, List.getElem?_cons_succ, Option.bind_some, Option.map_some, Option.bind_none, Option.map_none, if_true, if_false, Bool.false_eq_true, decide_true, decide_false, Nat.reduceAdd, Nat.reduceSub, Bool.not_true, Bool.not_false, sIf, sYes, sNext, sBad, tgName, tgTup, tgCons, tgNil, tupOf, seqOf, lstOf, ↓reduceIte, Nat.zero_le, Nat.reduceLeDiff, eq_i, d0]
        unfold m__law_deed g__law_deed N__law_deed
        refine (bodyM_eq (by rfl)).trans ?_
        generalize f0 : sAndT (sB (sOp fEqS (sVar 3) (sC (.int 0)))) (sB (sOp fLt (sCB (fb1 gLen) (sCons (sVar 2) sNil)) (sC (.int 6)))) = u0 at t0 ⊢
        generalize f1 : sAndT (sB (sOp fEqS (sVar 3) (sC (.int 1)))) (sB (sOp fGt (sCB (fb1 gLen) (sCons (sVar 2) sNil)) (sC (.int 1)))) = u1 at t1 ⊢
        simp only [bodyM, startD, sSeq, sIfS, sB, sNot, sNotV, sAnd, sAndT, sOrT, sOp, sVar, sC, sRet, sExpr, sSet, sAsg, sPar, sAug, sCons, sNil, sTup, sLst, sCall, sCB, fb1, ↓RL.bind_m, R.ofO_some, R.ofO_none, R.ofO, List.map_cons, List.map_nil, List.length_cons, List.length_nil, List.cons_append, List.nil_append, List.append_nil, List.replicate, List.set_cons_zero, List.set_cons_succ, List.getElem?_cons_zero, List.getElem?_cons_succ, Option.bind_some, Option.map_some, Option.bind_none, Option.map_none, if_true, if_false, Bool.false_eq_true, decide_true, decide_false, Nat.reduceAdd, Nat.reduceSub, Bool.not_true, Bool.not_false, sIf, sYes, sNext, sBad, tgName, tgTup, tgCons, tgNil, tupOf, seqOf, lstOf, ↓reduceIte, Nat.zero_le, Nat.reduceLeDiff, e1, gLen, ha1, List.length_map, e2, e3, sCm, tt, tr, eq_i, t0, t1, d2, e4]
        rw [fin_rtL (l4.trans D3.len)]
end
end K81
set_option Elab.async false
set_option linter.all false
set_option maxRecDepth 100000
set_option maxHeartbeats 4000000
namespace K81
open RL PySem L2 TL
section
variable {S : List Int} {p a b q c : Nat} {j j' : Int} {ws ws' ws0 : List Ce} {ts ts' ns : List Tk} {l m : List D} {w : Str}
theorem bench_now (hb : ws[b]? = some (bn ts q)) : m_Bench_now [.cell b] ws = .ok (oPlan ts) ws := by
  simp only [m_Bench_now, g_Bench_now, N_Bench_now, bodyM, startD, sSeq, sIfS, sB, sNot, sNotV, sAnd, sAndT, sOrT, sOp, sVar, sC, sRet, sExpr, sSet, sAsg, sPar, sAug, sCons, sNil, sTup, sLst, sCall, sCB, fb1, ↓RL.bind_m, R.ofO_some, R.ofO_none, R.ofO, List.map_cons, List.map_nil, List.length_cons, List.length_nil, List.cons_append, List.nil_append, List.append_nil, List.replicate, List.set_cons_zero, List.set_cons_succ, List.getElem?_cons_zero, List.getElem?_cons_succ, Option.bind_some, Option.map_some, Option.bind_none, Option.map_none, if_true, if_false, Bool.false_eq_true, decide_true, decide_false, Nat.reduceAdd, Nat.reduceSub, Bool.not_true, Bool.not_false, sIf, sYes, sNext, sBad, tgName, tgTup, tgCons, tgNil, tupOf, seqOf, lstOf, ↓reduceIte, Nat.zero_le, Nat.reduceLeDiff, sAttr, insB hb, ok4, fin_rt]
theorem bench_len (hb : ws[b]? = some (bn ts q)) (hq : ws[q]? = some (.lst l)) : m_Bench___len__ [.cell b] ws = .ok (.int (l.length : Nat)) ws := by
  simp only [m_Bench___len__, g_Bench___len__, N_Bench___len__, bodyM, startD, sSeq, sIfS, sB, sNot, sNotV, sAnd, sAndT, sOrT, sOp, sVar, sC, sRet, sExpr, sSet, sAsg, sPar, sAug, sCons, sNil, sTup, sLst, sCall, sCB, fb1, ↓RL.bind_m, R.ofO_some, R.ofO_none, R.ofO, List.map_cons, List.map_nil, List.length_cons, List.length_nil, List.cons_append, List.nil_append, List.append_nil, List.replicate, List.set_cons_zero, List.set_cons_succ, List.getElem?_cons_zero, List.getElem?_cons_succ, Option.bind_some, Option.map_some, Option.bind_none, Option.map_none, if_true, if_false, Bool.false_eq_true, decide_true, decide_false, Nat.reduceAdd, Nat.reduceSub, Bool.not_true, Bool.not_false, sIf, sYes, sNext, sBad, tgName, tgTup, tgCons, tgNil, tupOf, seqOf, lstOf, ↓reduceIte, Nat.zero_le, Nat.reduceLeDiff, sAttr, insB hb, ok5, gLen, hq, fin_rt]
theorem lenO_ok {c : Str} {m : Mf} {a : Sa} {ρ : List (Option D)} {d : D} {n : Nat} (h : a ρ ws = .ok [d] ws) (hi : isIns c ws d = true) (hm : m [d] ws = .ok (.int (n : Nat)) ws) (hn : n < 1000000) : sLenO c m a ρ ws = .ok (.int (n : Nat)) ws := by
  have h3 : (0 : Int) ≤ (n : Int) ∧ (n : Int) < 1000000 := by omega
  unfold sLenO
  rw [h, R.bind_ok]
  simp only [hi, if_true]
  rw [hm, R.bind_ok]
  exact if_pos h3
theorem bench_mk : mkR true "Bench" m_Bench___init__ [oPlan ts] ws = .ok (.cell ws.length) (ws ++ [bn ts (ws.length + 1), .lst []]) := by
  have g1 : (ws ++ [Ce.ins "Bench" [] []])[ws.length]? = some (.ins "Bench" [] []) := last_get rfl
  have g2 : ((ws ++ [Ce.ins "Bench" ["own_now"] [oPlan ts]]) ++ [Ce.lst []])[ws.length]? = some (.ins "Bench" ["own_now"] [oPlan ts]) := by
    rw [List.getElem?_append_left (by simp), last_get rfl]
  have s2 : ((ws ++ [Ce.ins "Bench" ["own_now"] [oPlan ts]]) ++ [Ce.lst []]).set ws.length (bn ts (ws.length + 1)) = ws ++ [bn ts (ws.length + 1), .lst []] := by
    rw [List.set_append_left _ _ (by simp), last_set rfl]
    simp
  have l1 : (ws ++ [Ce.ins "Bench" ["own_now"] [oPlan ts]]).length = ws.length + 1 := by simp
  unfold bn at s2
  have hm : m_Bench___init__ [.cell ws.length, oPlan ts] (ws ++ [Ce.ins "Bench" [] []]) = .ok .non (ws ++ [bn ts (ws.length + 1), .lst []]) := by
    simp only [m_Bench___init__, g_Bench___init__, N_Bench___init__, bodyM, startD, sSeq, sIfS, sB, sNot, sNotV, sAnd, sAndT, sOrT, sOp, sVar, sC, sRet, sExpr, sSet, sAsg, sPar, sAug, sCons, sNil, sTup, sLst, sCall, sCB, fb1, ↓RL.bind_m, R.ofO_some, R.ofO_none, R.ofO, List.map_cons, List.map_nil, List.length_cons, List.length_nil, List.cons_append, List.nil_append, List.append_nil, List.replicate, List.set_cons_zero, List.set_cons_succ, List.getElem?_cons_zero, List.getElem?_cons_succ, Option.bind_some, Option.map_some, Option.bind_none, Option.map_none, if_true, if_false, Bool.false_eq_true, decide_true, decide_false, Nat.reduceAdd, Nat.reduceSub, Bool.not_true, Bool.not_false, sIf, sYes, sNext, sBad, tgName, tgTup, tgCons, tgNil, tupOf, seqOf, lstOf, ↓reduceIte, Nat.zero_le, Nat.reduceLeDiff, need_plan, sNewF, g1, last_set rfl, List.not_mem_nil, not_false_eq_true, and_self, Nat.reduceLT, sLstM, l1, g2, s2, List.mem_singleton, show ¬ ("past" : Str) = "own_now" from by decide]
    rfl
  unfold mkR
  rw [hm]
  rfl
/-! undone -/
theorem bench_undo (hb : ws[b]? = some (bn ts q)) (hq : ws[q]? = some (.lst m)) (h0 : m ≠ []) (h1 : m[m.length - 1]? = some (.tup [.str w, oPlan ns])) (hne : b ≠ q) : m_Bench_undo [.cell b] ws = .ok (.str w) ((ws.set q (.lst m.dropLast)).set b (bn ns q)) := by
  have hb2 : (ws.set q (.lst m.dropLast))[b]? = some (bn ts q) := by rw [List.getElem?_set_ne (Ne.symm hne), hb]
  have hb3 := hb2
  unfold bn at hb3
  have d0 : decide (((m.length : Nat) : Int) = 0) = false := by
    have := List.length_pos_iff.mpr h0
    exact decide_eq_false (by omega)
  simp only [m_Bench_undo, g_Bench_undo, N_Bench_undo, bodyM, startD, sSeq, sIfS, sB, sNot, sNotV, sAnd, sAndT, sOrT, sOp, sVar, sC, sRet, sExpr, sSet, sAsg, sPar, sAug, sCons, sNil, sTup, sLst, sCall, sCB, fb1, ↓RL.bind_m, R.ofO_some, R.ofO_none, R.ofO, List.map_cons, List.map_nil, List.length_cons, List.length_nil, List.cons_append, List.nil_append, List.append_nil, List.replicate, List.set_cons_zero, List.set_cons_succ, List.getElem?_cons_zero, List.getElem?_cons_succ, Option.bind_some, Option.map_some, Option.bind_none, Option.map_none, if_true, if_false, Bool.false_eq_true, decide_true, decide_false, Nat.reduceAdd, Nat.reduceSub, Bool.not_true, Bool.not_false, sIf, sYes, sNext, sBad, tgName, tgTup, tgCons, tgNil, tupOf, seqOf, lstOf, ↓reduceIte, Nat.zero_le, Nat.reduceLeDiff, sMB, sAttr, insB hb, insB hb2, ok4, ok5, isTy, gLen, hq, eq_i, d0, beq_self_eq_true, fmPop0, h1, sSetF, hb3, and_self, Nat.reduceLT]
  rw [fin_rtL (by simp)]
  rfl
theorem bench_undo0 (hb : ws[b]? = some (bn ts q)) (hq : ws[q]? = some (.lst [])) : m_Bench_undo [.cell b] ws = .ex ⟨"Nothing", [], []⟩ ws := by
  have d0 : decide (((0 : Nat) : Int) = 0) = true := rfl
  have e0 : ∀ ρ : List (Option D), sRaise0 "Nothing" ρ ws = .ex ⟨"Nothing", [], []⟩ ws := fun _ => rfl
  simp only [m_Bench_undo, g_Bench_undo, N_Bench_undo, bodyM, startD, sSeq, sIfS, sB, sNot, sNotV, sAnd, sAndT, sOrT, sOp, sVar, sC, sRet, sExpr, sSet, sAsg, sPar, sAug, sCons, sNil, sTup, sLst, sCall, sCB, fb1, ↓RL.bind_m, R.ofO_some, R.ofO_none, R.ofO, List.map_cons, List.map_nil, List.length_cons, List.length_nil, List.cons_append, List.nil_append, List.append_nil, List.replicate, List.set_cons_zero, List.set_cons_succ, List.getElem?_cons_zero, List.getElem?_cons_succ, Option.bind_some, Option.map_some, Option.bind_none, Option.map_none, if_true, if_false, Bool.false_eq_true, decide_true, decide_false, Nat.reduceAdd, Nat.reduceSub, Bool.not_true, Bool.not_false, sIf, sYes, sNext, sBad, tgName, tgTup, tgCons, tgNil, tupOf, seqOf, lstOf, ↓reduceIte, Nat.zero_le, Nat.reduceLeDiff, sAttr, insB hb, ok5, gLen, hq, eq_i, d0, e0, R.bind_ex]
  rw [fin_exL rfl]
/-! what a bench refuses -/
theorem raise1 {c f : Str} {a : Sa} {ρ : List (Option D)} {d : D} (h : a ρ ws = .ok [d] ws) : sRaise c [f] a ρ ws = .ex ⟨c, [f], [d]⟩ ws := by
  unfold sRaise
  rw [h]
  rfl
theorem need_tick_bad {d : D} {t : Tn} (ht : tyD ws d = some t) (hl : tab_Tick.lookup t = some false) : m_need_tick [d] ws = .ex ⟨"BadBench", ["part"], [.str "tick"]⟩ ws := by
  have e0 : ∀ ρ : List (Option D), sRaise "BadBench" ["part"] (sCons (sC (.str "tick")) sNil) ρ ws = .ex ⟨"BadBench", ["part"], [.str "tick"]⟩ ws := fun _ => raise1 rfl
  simp only [m_need_tick, g_need_tick, N_need_tick, bodyM, startD, sSeq, sIfS, sB, sNot, sNotV, sAnd, sAndT, sOrT, sOp, sVar, sC, sRet, sExpr, sSet, sAsg, sPar, sAug, sCons, sNil, sTup, sLst, sCall, sCB, fb1, ↓RL.bind_m, R.ofO_some, R.ofO_none, R.ofO, List.map_cons, List.map_nil, List.length_cons, List.length_nil, List.cons_append, List.nil_append, List.append_nil, List.replicate, List.set_cons_zero, List.set_cons_succ, List.getElem?_cons_zero, List.getElem?_cons_succ, Option.bind_some, Option.map_some, Option.bind_none, Option.map_none, if_true, if_false, Bool.false_eq_true, decide_true, decide_false, Nat.reduceAdd, Nat.reduceSub, Bool.not_true, Bool.not_false, sIf, sYes, sNext, sBad, tgName, tgTup, tgCons, tgNil, tupOf, seqOf, lstOf, ↓reduceIte, Nat.zero_le, Nat.reduceLeDiff, sIsi, ht, hl, e0, R.bind_ex]
  rw [fin_exL rfl]
theorem need_plan_bad {d : D} {t : Tn} (ht : tyD ws d = some t) (hl : tab_Plan.lookup t = some false) : m_need_plan [d] ws = .ex ⟨"BadBench", ["part"], [.str "plan"]⟩ ws := by
  have e0 : ∀ ρ : List (Option D), sRaise "BadBench" ["part"] (sCons (sC (.str "plan")) sNil) ρ ws = .ex ⟨"BadBench", ["part"], [.str "plan"]⟩ ws := fun _ => raise1 rfl
  simp only [m_need_plan, g_need_plan, N_need_plan, bodyM, startD, sSeq, sIfS, sB, sNot, sNotV, sAnd, sAndT, sOrT, sOp, sVar, sC, sRet, sExpr, sSet, sAsg, sPar, sAug, sCons, sNil, sTup, sLst, sCall, sCB, fb1, ↓RL.bind_m, R.ofO_some, R.ofO_none, R.ofO, List.map_cons, List.map_nil, List.length_cons, List.length_nil, List.cons_append, List.nil_append, List.append_nil, List.replicate, List.set_cons_zero, List.set_cons_succ, List.getElem?_cons_zero, List.getElem?_cons_succ, Option.bind_some, Option.map_some, Option.bind_none, Option.map_none, if_true, if_false, Bool.false_eq_true, decide_true, decide_false, Nat.reduceAdd, Nat.reduceSub, Bool.not_true, Bool.not_false, sIf, sYes, sNext, sBad, tgName, tgTup, tgCons, tgNil, tupOf, seqOf, lstOf, ↓reduceIte, Nat.zero_le, Nat.reduceLeDiff, sIsi, ht, hl, e0, R.bind_ex]
  rw [fin_exL rfl]
theorem add_bad (hb : ws[b]? = some (bn ts q)) : m_Bench_add [.cell b, .non] ws = .ex ⟨"BadBench", ["part"], [.str "tick"]⟩ ws := by
  have n0 := need_tick_bad (ws := ws) (d := .non) (t := .b "NoneType") rfl (by decide)
  simp only [m_Bench_add, g_Bench_add, N_Bench_add, bodyM, startD, sSeq, sIfS, sB, sNot, sNotV, sAnd, sAndT, sOrT, sOp, sVar, sC, sRet, sExpr, sSet, sAsg, sPar, sAug, sCons, sNil, sTup, sLst, sCall, sCB, fb1, ↓RL.bind_m, R.ofO_some, R.ofO_none, R.ofO, List.map_cons, List.map_nil, List.length_cons, List.length_nil, List.cons_append, List.nil_append, List.append_nil, List.replicate, List.set_cons_zero, List.set_cons_succ, List.getElem?_cons_zero, List.getElem?_cons_succ, Option.bind_some, Option.map_some, Option.bind_none, Option.map_none, if_true, if_false, Bool.false_eq_true, decide_true, decide_false, Nat.reduceAdd, Nat.reduceSub, Bool.not_true, Bool.not_false, sIf, sYes, sNext, sBad, tgName, tgTup, tgCons, tgNil, tupOf, seqOf, lstOf, ↓reduceIte, Nat.zero_le, Nat.reduceLeDiff, n0, R.bind_ex]
  rw [fin_exL rfl]
theorem phase_bad {i : Int} (hb : ws[b]? = some (bn ts q)) (h6 : ts.length ≤ 6) (h : ¬ (0 ≤ i ∧ i < ts.length)) : m_Bench_need_phase [.cell b, .int i] ws = .ex ⟨"NoPhase", ["at"], [.int i]⟩ ws := by
  have h1 : (decide (0 ≤ i) && decide (i ≤ (ts.length : Int) - 1)) = false := by
    rw [← Bool.decide_and]
    exact decide_eq_false (by omega)
  have e0 : ∀ ρ : List (Option D), sRaise "NoPhase" ["at"] (sCons (sVar 1) sNil) (some (.cell b) :: some (.int i) :: ρ) ws = .ex ⟨"NoPhase", ["at"], [.int i]⟩ ws := fun _ => raise1 rfl
  simp only [m_Bench_need_phase, g_Bench_need_phase, N_Bench_need_phase, bodyM, startD, sSeq, sIfS, sB, sNot, sNotV, sAnd, sAndT, sOrT, sOp, sVar, sC, sRet, sExpr, sSet, sAsg, sPar, sAug, sCons, sNil, sTup, sLst, sCall, sCB, fb1, ↓RL.bind_m, R.ofO_some, R.ofO_none, R.ofO, List.map_cons, List.map_nil, List.length_cons, List.length_nil, List.cons_append, List.nil_append, List.append_nil, List.replicate, List.set_cons_zero, List.set_cons_succ, List.getElem?_cons_zero, List.getElem?_cons_succ, Option.bind_some, Option.map_some, Option.bind_none, Option.map_none, if_true, if_false, Bool.false_eq_true, decide_true, decide_false, Nat.reduceAdd, Nat.reduceSub, Bool.not_true, Bool.not_false, sIf, sYes, sNext, sBad, tgName, tgTup, tgCons, tgNil, tupOf, seqOf, lstOf, ↓reduceIte, Nat.zero_le, Nat.reduceLeDiff, len_b hb h6, fSub, fI, is_within, h1, e0, R.bind_ex]
  rw [fin_exL rfl]
theorem drop_bad {i : Int} (hb : ws[b]? = some (bn ts q)) (h6 : ts.length ≤ 6) (h : ¬ (0 ≤ i ∧ i < ts.length)) : m_Bench_drop [.cell b, .int i] ws = .ex ⟨"NoPhase", ["at"], [.int i]⟩ ws := by
  simp only [m_Bench_drop, g_Bench_drop, N_Bench_drop, bodyM, startD, sSeq, sIfS, sB, sNot, sNotV, sAnd, sAndT, sOrT, sOp, sVar, sC, sRet, sExpr, sSet, sAsg, sPar, sAug, sCons, sNil, sTup, sLst, sCall, sCB, fb1, ↓RL.bind_m, R.ofO_some, R.ofO_none, R.ofO, List.map_cons, List.map_nil, List.length_cons, List.length_nil, List.cons_append, List.nil_append, List.append_nil, List.replicate, List.set_cons_zero, List.set_cons_succ, List.getElem?_cons_zero, List.getElem?_cons_succ, Option.bind_some, Option.map_some, Option.bind_none, Option.map_none, if_true, if_false, Bool.false_eq_true, decide_true, decide_false, Nat.reduceAdd, Nat.reduceSub, Bool.not_true, Bool.not_false, sIf, sYes, sNext, sBad, tgName, tgTup, tgCons, tgNil, tupOf, seqOf, lstOf, ↓reduceIte, Nat.zero_le, Nat.reduceLeDiff, sMeth, insB hb, nd2, phase_bad hb h6 h, R.bind_ex]
  rw [fin_exL rfl]
theorem replace_bad (hb : ws[b]? = some (bn ts q)) : m_Bench_replace [.cell b, .str "0"] ws = .ex ⟨"BadBench", ["part"], [.str "plan"]⟩ ws := by
  have n0 := need_plan_bad (ws := ws) (d := .str "0") (t := .b "str") rfl (by decide)
  simp only [m_Bench_replace, g_Bench_replace, N_Bench_replace, bodyM, startD, sSeq, sIfS, sB, sNot, sNotV, sAnd, sAndT, sOrT, sOp, sVar, sC, sRet, sExpr, sSet, sAsg, sPar, sAug, sCons, sNil, sTup, sLst, sCall, sCB, fb1, ↓RL.bind_m, R.ofO_some, R.ofO_none, R.ofO, List.map_cons, List.map_nil, List.length_cons, List.length_nil, List.cons_append, List.nil_append, List.append_nil, List.replicate, List.set_cons_zero, List.set_cons_succ, List.getElem?_cons_zero, List.getElem?_cons_succ, Option.bind_some, Option.map_some, Option.bind_none, Option.map_none, if_true, if_false, Bool.false_eq_true, decide_true, decide_false, Nat.reduceAdd, Nat.reduceSub, Bool.not_true, Bool.not_false, sIf, sYes, sNext, sBad, tgName, tgTup, tgCons, tgNil, tupOf, seqOf, lstOf, ↓reduceIte, Nat.zero_le, Nat.reduceLeDiff, n0, R.bind_ex]
  rw [fin_exL rfl]
theorem set_bad (hb : ws[b]? = some (bn ts q)) (h0 : ts ≠ []) (h6 : ts.length ≤ 6) : m__law_set [.cell b, .int 0, .tup [.int 0]] ws = .ex ⟨"BadBench", ["part"], [.str "tick"]⟩ ws := by
  have n0 := need_tick_bad (ws := ws) (d := .tup [.int 0]) (t := .b "tuple") rfl (by decide)
  have np := need_phase (i := 0) hb (List.length_pos_iff.mpr h0) h6
  have np : m_Bench_need_phase [.cell b, .int 0] ws = .ok .non ws := np
  have bs : m_Bench___setitem__ [.cell b, .int 0, .tup [.int 0]] ws = .ex ⟨"BadBench", ["part"], [.str "tick"]⟩ ws := by
    simp only [m_Bench___setitem__, g_Bench___setitem__, N_Bench___setitem__, bodyM, startD, sSeq, sIfS, sB, sNot, sNotV, sAnd, sAndT, sOrT, sOp, sVar, sC, sRet, sExpr, sSet, sAsg, sPar, sAug, sCons, sNil, sTup, sLst, sCall, sCB, fb1, ↓RL.bind_m, R.ofO_some, R.ofO_none, R.ofO, List.map_cons, List.map_nil, List.length_cons, List.length_nil, List.cons_append, List.nil_append, List.append_nil, List.replicate, List.set_cons_zero, List.set_cons_succ, List.getElem?_cons_zero, List.getElem?_cons_succ, Option.bind_some, Option.map_some, Option.bind_none, Option.map_none, if_true, if_false, Bool.false_eq_true, decide_true, decide_false, Nat.reduceAdd, Nat.reduceSub, Bool.not_true, Bool.not_false, sIf, sYes, sNext, sBad, tgName, tgTup, tgCons, tgNil, tupOf, seqOf, lstOf, ↓reduceIte, Nat.zero_le, Nat.reduceLeDiff, sMeth, insB hb, nd2, np, n0, R.bind_ex]
    rw [fin_exL rfl]
  simp only [m__law_set, g__law_set, N__law_set, bodyM, startD, sSeq, sIfS, sB, sNot, sNotV, sAnd, sAndT, sOrT, sOp, sVar, sC, sRet, sExpr, sSet, sAsg, sPar, sAug, sCons, sNil, sTup, sLst, sCall, sCB, fb1, ↓RL.bind_m, R.ofO_some, R.ofO_none, R.ofO, List.map_cons, List.map_nil, List.length_cons, List.length_nil, List.cons_append, List.nil_append, List.append_nil, List.replicate, List.set_cons_zero, List.set_cons_succ, List.getElem?_cons_zero, List.getElem?_cons_succ, Option.bind_some, Option.map_some, Option.bind_none, Option.map_none, if_true, if_false, Bool.false_eq_true, decide_true, decide_false, Nat.reduceAdd, Nat.reduceSub, Bool.not_true, Bool.not_false, sIf, sYes, sNext, sBad, tgName, tgTup, tgCons, tgNil, tupOf, seqOf, lstOf, ↓reduceIte, Nat.zero_le, Nat.reduceLeDiff, tgItemO, isB hb, bs, R.bind_ex]
  rw [fin_exL rfl]
/-! what is heard -/
theorem heard_ref {ask : List Ce → R D} {c : Str} {ks : List Str} {es : List D} (h : ask ws = .ex ⟨c, ks, es⟩ ws) (hc : c = "BadBench" ∨ c = "NoPhase") : m__law_heard ask ws = .ok (.tup [.str "refused"]) ws := by
  have k1 : xcat.lookup ("BadBench" : Str) = some true := by decide
  have k2 : xcat.lookup ("NoPhase" : Str) = some true := by decide
  have k3 : xtab_BadBench_NoPhase.lookup ("BadBench" : Str) = some true := by decide
  have k4 : xtab_BadBench_NoPhase.lookup ("NoPhase" : Str) = some true := by decide
  rcases hc with rfl | rfl
  · simp only [m__law_heard, hrd, h, k1, g__law_heard, N__law_heard, bodyM, startD, sSeq, sIfS, sB, sNot, sNotV, sAnd, sAndT, sOrT, sOp, sVar, sC, sRet, sExpr, sSet, sAsg, sPar, sAug, sCons, sNil, sTup, sLst, sCall, sCB, fb1, ↓RL.bind_m, R.ofO_some, R.ofO_none, R.ofO, List.map_cons, List.map_nil, List.length_cons, List.length_nil, List.cons_append, List.nil_append, List.append_nil, List.replicate, List.set_cons_zero, List.set_cons_succ, List.getElem?_cons_zero, List.getElem?_cons_succ, Option.bind_some, Option.map_some, Option.bind_none, Option.map_none, if_true, if_false, Bool.false_eq_true, decide_true, decide_false, Nat.reduceAdd, Nat.reduceSub, Bool.not_true, Bool.not_false, sIf, sYes, sNext, sBad, tgName, tgTup, tgCons, tgNil, tupOf, seqOf, lstOf, ↓reduceIte, Nat.zero_le, Nat.reduceLeDiff, fbIsX, xcl_BadBench_NoPhase, k3, eq_self, flR, nox]
  · simp only [m__law_heard, hrd, h, k2, g__law_heard, N__law_heard, bodyM, startD, sSeq, sIfS, sB, sNot, sNotV, sAnd, sAndT, sOrT, sOp, sVar, sC, sRet, sExpr, sSet, sAsg, sPar, sAug, sCons, sNil, sTup, sLst, sCall, sCB, fb1, ↓RL.bind_m, R.ofO_some, R.ofO_none, R.ofO, List.map_cons, List.map_nil, List.length_cons, List.length_nil, List.cons_append, List.nil_append, List.append_nil, List.replicate, List.set_cons_zero, List.set_cons_succ, List.getElem?_cons_zero, List.getElem?_cons_succ, Option.bind_some, Option.map_some, Option.bind_none, Option.map_none, if_true, if_false, Bool.false_eq_true, decide_true, decide_false, Nat.reduceAdd, Nat.reduceSub, Bool.not_true, Bool.not_false, sIf, sYes, sNext, sBad, tgName, tgTup, tgCons, tgNil, tupOf, seqOf, lstOf, ↓reduceIte, Nat.zero_le, Nat.reduceLeDiff, fbIsX, xcl_BadBench_NoPhase, k4, eq_self, flR, nox]
theorem heard_non {ask : List Ce → R D} {ks : List Str} {es : List D} (h : ask ws = .ex ⟨"Nothing", ks, es⟩ ws) : m__law_heard ask ws = .ok (.tup [.str "nothing"]) ws := by
  have k1 : xcat.lookup ("Nothing" : Str) = some true := by decide
  have k3 : xtab_BadBench_NoPhase.lookup ("Nothing" : Str) = some false := by decide
  have k4 : xtab_Nothing.lookup ("Nothing" : Str) = some true := by decide
  simp only [m__law_heard, hrd, h, k1, g__law_heard, N__law_heard, bodyM, startD, sSeq, sIfS, sB, sNot, sNotV, sAnd, sAndT, sOrT, sOp, sVar, sC, sRet, sExpr, sSet, sAsg, sPar, sAug, sCons, sNil, sTup, sLst, sCall, sCB, fb1, ↓RL.bind_m, R.ofO_some, R.ofO_none, R.ofO, List.map_cons, List.map_nil, List.length_cons, List.length_nil, List.cons_append, List.nil_append, List.append_nil, List.replicate, List.set_cons_zero, List.set_cons_succ, List.getElem?_cons_zero, List.getElem?_cons_succ, Option.bind_some, Option.map_some, Option.bind_none, Option.map_none, if_true, if_false, Bool.false_eq_true, decide_true, decide_false, Nat.reduceAdd, Nat.reduceSub, Bool.not_true, Bool.not_false, sIf, sYes, sNext, sBad, tgName, tgTup, tgCons, tgNil, tupOf, seqOf, lstOf, ↓reduceIte, Nat.zero_le, Nat.reduceLeDiff, fbIsX, xcl_BadBench_NoPhase, xcl_Nothing, k3, k4, eq_self, flR, nox]
end
end K81
set_option Elab.async false
set_option linter.all false
set_option maxRecDepth 100000
set_option maxHeartbeats 4000000
namespace K81
open RL PySem L2 TL
section
variable {S : List Int} {p a b q c : Nat} {j j' : Int} {ws ws' ws0 : List Ce} {ts ts' ns : List Tk} {l m : List D} {w : Str} {es es' : List (Str × List Tk)}
theorem law_plan_textL (h : ∀ t ∈ ts, Gt t) (h6 : ts.length ≤ 6) : m__law_plan_text [.lst (ts.map dTick)] ws = .ok (.str (pText ts)) ws := by
  have z := lc_gen (src := none) (tg := tgName 1) (ρ := wipeD [some (.lst (ts.map dTick)), none] [1]) (el := sCall m__law_tick_text (sCons (sVar 1) sNil)) (all := ts.map dTick) dTick (fun t => .str (tText t)) (ws := ws) trivial ts [] (by simp; omega) (by
    intro t ht
    refine ⟨_, rfl, ?_⟩
    simp only [wipeD, bodyM, startD, sSeq, sIfS, sB, sNot, sNotV, sAnd, sAndT, sOrT, sOp, sVar, sC, sRet, sExpr, sSet, sAsg, sPar, sAug, sCons, sNil, sTup, sLst, sCall, sCB, fb1, ↓RL.bind_m, R.ofO_some, R.ofO_none, R.ofO, List.map_cons, List.map_nil, List.length_cons, List.length_nil, List.cons_append, List.nil_append, List.append_nil, List.replicate, List.set_cons_zero, List.set_cons_succ, List.getElem?_cons_zero, List.getElem?_cons_succ, Option.bind_some, Option.map_some, Option.bind_none, Option.map_none, if_true, if_false, Bool.false_eq_true, decide_true, decide_false, Nat.reduceAdd, Nat.reduceSub, Bool.not_true, Bool.not_false, sIf, sYes, sNext, sBad, tgName, tgTup, tgCons, tgNil, tupOf, seqOf, lstOf, ↓reduceIte, Nat.zero_le, Nat.reduceLeDiff, law_tick_text (h t ht)])
  have e : (ts.map fun t => D.str (tText t)) = (ts.map tText).map .str := by simp
  rw [List.nil_append, e] at z
  simp only [m__law_plan_text, g__law_plan_text, N__law_plan_text, bodyM, startD, sSeq, sIfS, sB, sNot, sNotV, sAnd, sAndT, sOrT, sOp, sVar, sC, sRet, sExpr, sSet, sAsg, sPar, sAug, sCons, sNil, sTup, sLst, sCall, sCB, fb1, ↓RL.bind_m, R.ofO_some, R.ofO_none, R.ofO, List.map_cons, List.map_nil, List.length_cons, List.length_nil, List.cons_append, List.nil_append, List.append_nil, List.replicate, List.set_cons_zero, List.set_cons_succ, List.getElem?_cons_zero, List.getElem?_cons_succ, Option.bind_some, Option.map_some, Option.bind_none, Option.map_none, if_true, if_false, Bool.false_eq_true, decide_true, decide_false, Nat.reduceAdd, Nat.reduceSub, Bool.not_true, Bool.not_false, sIf, sYes, sNext, sBad, tgName, tgTup, tgCons, tgNil, tupOf, seqOf, lstOf, ↓reduceIte, Nat.zero_le, Nat.reduceLeDiff, sMB, isTy, beq_self_eq_true, lc_u, sItL, itOf, z, fzL, pText_do h h6, fin_rt]
/-! four times refused -/
def dRef : D := .tup [.str "refused"]
theorem ask_add (hb : ws[b]? = some (bn ts q)) {r1 r2 r3 : Option D} : sAsk m__law_heard (sMeth "Bench" "add" m_Bench_add (sVar 0) (sCons (sC .non) sNil)) [some (.cell b), r1, r2, r3] ws = .ok dRef ws := by
  refine heard_ref (ask := fun ws1 => sMeth "Bench" "add" m_Bench_add (sVar 0) (sCons (sC .non) sNil) [some (.cell b), r1, r2, r3] ws1) (c := "BadBench") (ks := ["part"]) (es := [.str "tick"]) ?_ (.inl rfl)
  simp only [bodyM, startD, sSeq, sIfS, sB, sNot, sNotV, sAnd, sAndT, sOrT, sOp, sVar, sC, sRet, sExpr, sSet, sAsg, sPar, sAug, sCons, sNil, sTup, sLst, sCall, sCB, fb1, ↓RL.bind_m, R.ofO_some, R.ofO_none, R.ofO, List.map_cons, List.map_nil, List.length_cons, List.length_nil, List.cons_append, List.nil_append, List.append_nil, List.replicate, List.set_cons_zero, List.set_cons_succ, List.getElem?_cons_zero, List.getElem?_cons_succ, Option.bind_some, Option.map_some, Option.bind_none, Option.map_none, if_true, if_false, Bool.false_eq_true, decide_true, decide_false, Nat.reduceAdd, Nat.reduceSub, Bool.not_true, Bool.not_false, sIf, sYes, sNext, sBad, tgName, tgTup, tgCons, tgNil, tupOf, seqOf, lstOf, ↓reduceIte, Nat.zero_le, Nat.reduceLeDiff, sMeth, insB hb, nd_add, add_bad hb, R.bind_ex]
theorem ask_drop (hb : ws[b]? = some (bn ts q)) (h6 : ts.length ≤ 6) {r2 r3 : Option D} : sAsk m__law_heard (sMeth "Bench" "drop" m_Bench_drop (sVar 0) (sCons (sLenO "Plan" m_Plan___len__ (sCons (sVar 1) sNil)) sNil)) [some (.cell b), some (oPlan ts), r2, r3] ws = .ok dRef ws := by
  have lo := len_o (ns := ts) (a := sCons (sVar 1) sNil) (ρ := [some (.cell b), some (oPlan ts), r2, r3]) (ws := ws) rfl h6
  refine heard_ref (ask := fun ws1 => sMeth "Bench" "drop" m_Bench_drop (sVar 0) (sCons (sLenO "Plan" m_Plan___len__ (sCons (sVar 1) sNil)) sNil) [some (.cell b), some (oPlan ts), r2, r3] ws1) (c := "NoPhase") (ks := ["at"]) (es := [.int (ts.length : Nat)]) ?_ (.inr rfl)
  simp only [bodyM, startD, sSeq, sIfS, sB, sNot, sNotV, sAnd, sAndT, sOrT, sOp, sVar, sC, sRet, sExpr, sSet, sAsg, sPar, sAug, sCons, sNil, sTup, sLst, sCall, sCB, fb1, ↓RL.bind_m, R.ofO_some, R.ofO_none, R.ofO, List.map_cons, List.map_nil, List.length_cons, List.length_nil, List.cons_append, List.nil_append, List.append_nil, List.replicate, List.set_cons_zero, List.set_cons_succ, List.getElem?_cons_zero, List.getElem?_cons_succ, Option.bind_some, Option.map_some, Option.bind_none, Option.map_none, if_true, if_false, Bool.false_eq_true, decide_true, decide_false, Nat.reduceAdd, Nat.reduceSub, Bool.not_true, Bool.not_false, sIf, sYes, sNext, sBad, tgName, tgTup, tgCons, tgNil, tupOf, seqOf, lstOf, ↓reduceIte, Nat.zero_le, Nat.reduceLeDiff, sMeth, insB hb, nd_drop, lo, drop_bad (i := (ts.length : Nat)) hb h6 (by omega), R.bind_ex]
theorem ask_rep (hb : ws[b]? = some (bn ts q)) {r1 r2 r3 : Option D} : sAsk m__law_heard (sMeth "Bench" "replace" m_Bench_replace (sVar 0) (sCons (sC (.str "0")) sNil)) [some (.cell b), r1, r2, r3] ws = .ok dRef ws := by
  refine heard_ref (ask := fun ws1 => sMeth "Bench" "replace" m_Bench_replace (sVar 0) (sCons (sC (.str "0")) sNil) [some (.cell b), r1, r2, r3] ws1) (c := "BadBench") (ks := ["part"]) (es := [.str "plan"]) ?_ (.inl rfl)
  simp only [bodyM, startD, sSeq, sIfS, sB, sNot, sNotV, sAnd, sAndT, sOrT, sOp, sVar, sC, sRet, sExpr, sSet, sAsg, sPar, sAug, sCons, sNil, sTup, sLst, sCall, sCB, fb1, ↓RL.bind_m, R.ofO_some, R.ofO_none, R.ofO, List.map_cons, List.map_nil, List.length_cons, List.length_nil, List.cons_append, List.nil_append, List.append_nil, List.replicate, List.set_cons_zero, List.set_cons_succ, List.getElem?_cons_zero, List.getElem?_cons_succ, Option.bind_some, Option.map_some, Option.bind_none, Option.map_none, if_true, if_false, Bool.false_eq_true, decide_true, decide_false, Nat.reduceAdd, Nat.reduceSub, Bool.not_true, Bool.not_false, sIf, sYes, sNext, sBad, tgName, tgTup, tgCons, tgNil, tupOf, seqOf, lstOf, ↓reduceIte, Nat.zero_le, Nat.reduceLeDiff, sMeth, insB hb, nd_rep, replace_bad hb, R.bind_ex]
theorem ask_set (hb : ws[b]? = some (bn ts q)) (h0 : ts ≠ []) (h6 : ts.length ≤ 6) {r1 r2 r3 : Option D} : sAsk m__law_heard (sCall m__law_set (sCons (sVar 0) (sCons (sC (.int 0)) (sCons (sTup (sCons (sC (.int 0)) sNil)) sNil)))) [some (.cell b), r1, r2, r3] ws = .ok dRef ws := by
  refine heard_ref (ask := fun ws1 => sCall m__law_set (sCons (sVar 0) (sCons (sC (.int 0)) (sCons (sTup (sCons (sC (.int 0)) sNil)) sNil))) [some (.cell b), r1, r2, r3] ws1) (c := "BadBench") (ks := ["part"]) (es := [.str "tick"]) ?_ (.inl rfl)
  simp only [bodyM, startD, sSeq, sIfS, sB, sNot, sNotV, sAnd, sAndT, sOrT, sOp, sVar, sC, sRet, sExpr, sSet, sAsg, sPar, sAug, sCons, sNil, sTup, sLst, sCall, sCB, fb1, ↓RL.bind_m, R.ofO_some, R.ofO_none, R.ofO, List.map_cons, List.map_nil, List.length_cons, List.length_nil, List.cons_append, List.nil_append, List.append_nil, List.replicate, List.set_cons_zero, List.set_cons_succ, List.getElem?_cons_zero, List.getElem?_cons_succ, Option.bind_some, Option.map_some, Option.bind_none, Option.map_none, if_true, if_false, Bool.false_eq_true, decide_true, decide_false, Nat.reduceAdd, Nat.reduceSub, Bool.not_true, Bool.not_false, sIf, sYes, sNext, sBad, tgName, tgTup, tgCons, tgNil, tupOf, seqOf, lstOf, ↓reduceIte, Nat.zero_le, Nat.reduceLeDiff, set_bad hb h0 h6, R.bind_ex]
theorem ref4 : ShL [dRef, dRef, dRef, dRef] 1 := by
  have h : Sh dRef 1 := Sh.tup (ShL.cons (Sh.str (by decide +kernel) 0) (ShL.nil 0))
  exact ShL.cons h (ShL.cons h (ShL.cons h (ShL.cons h (ShL.nil 1))))
theorem refused (hb : ws[b]? = some (bn ts q)) (hq : ws[q]? = some (.lst m)) (hm : m.length < 1000) (h0 : ts ≠ []) (h6 : ts.length ≤ 6) : m__law_refused_right [.cell b] ws = .ok (.bl true) ws := by
  have up : ∀ {i : Nat} {c : Ce} (x : Ce), ws[i]? = some c → (ws ++ [x])[i]? = some c := fun x h => by rw [List.getElem?_append_left (lt_of h)]; exact h
  have hn : ∀ x : Ce, (ws ++ [x])[ws.length]? = some x := fun x => last_get rfl
  have lo := lenO_ok (c := "Bench") (a := sCons (sVar 0) sNil) (ρ := [some (D.cell b), none, none, none]) rfl (isB hb) (bench_len hb hq) (by omega)
  have lo2 := lenO_ok (c := "Bench") (a := sCons (sVar 0) sNil) (ρ := [some (D.cell b), some (oPlan ts), some (.int (m.length : Nat)), some (.cell ws.length)]) rfl (isB (up (.lst [dRef, dRef, dRef, dRef]) hb)) (bench_len (up _ hb) (up _ hq)) (by omega)
  have rp : ∀ w : List Ce, fRep w (.lst [.tup [.str "refused"]]) (.int 4) = some (.lst [dRef, dRef, dRef, dRef]) := fun _ => rfl
  have e1 := eq_cell_self (ws := ws ++ [.lst [dRef, dRef, dRef, dRef]]) (n := ws.length) (hn _) ref4 (by omega)
  have n2 : ∀ w : List Ce, fEqS w (.int (m.length : Nat)) (.int (m.length : Nat)) = some (.bl true) := fun w => by simp [fEqS, scalEq]
  simp only [m__law_refused_right, g__law_refused_right, N__law_refused_right, bodyM, startD, sSeq, sIfS, sB, sNot, sNotV, sAnd, sAndT, sOrT, sOp, sVar, sC, sRet, sExpr, sSet, sAsg, sPar, sAug, sCons, sNil, sTup, sLst, sCall, sCB, fb1, ↓RL.bind_m, R.ofO_some, R.ofO_none, R.ofO, List.map_cons, List.map_nil, List.length_cons, List.length_nil, List.cons_append, List.nil_append, List.append_nil, List.replicate, List.set_cons_zero, List.set_cons_succ, List.getElem?_cons_zero, List.getElem?_cons_succ, Option.bind_some, Option.map_some, Option.bind_none, Option.map_none, if_true, if_false, Bool.false_eq_true, decide_true, decide_false, Nat.reduceAdd, Nat.reduceSub, Bool.not_true, Bool.not_false, sIf, sYes, sNext, sBad, tgName, tgTup, tgCons, tgNil, tupOf, seqOf, lstOf, ↓reduceIte, Nat.zero_le, Nat.reduceLeDiff, sProp, isB hb, bench_now hb, nox, lo, ask_add hb, sLstM, sMB, isTy, hn, beq_self_eq_true, fmAppend, last_set rfl, ask_drop (up _ hb) h6, ask_rep (up _ hb), ask_set (up _ hb) h0 h6, Nat.reduceLT, and_self, rp, e1, isB (up _ hb), bench_now (up _ hb), fQ, q_plan, lo2, n2]
  rw [fin_cut (cut_appX _ _) rfl (by simp) rfl]
/-! led back -/
def lent (e : Str × List Tk) : D := .tup [.str e.1, .lst (e.2.map dTick)]
def OkE (e : Str × List Tk) : Prop := PyData.strOk e.1 = true ∧ e.2 ≠ [] ∧ (∀ t ∈ e.2, Gt t) ∧ e.2.length ≤ 6
theorem sh_tick (t : Tk) : Sh (dTick t) 3 := Sh.tup (ShL.cons (Sh.bl _ _) (ShL.cons (Sh.lst (ShL.map fun s _ => Sh.tup (ShL.map fun i _ => Sh.int i 0))) (ShL.nil _)))
theorem sh_ent {e : Str × List Tk} (h : OkE e) : Sh (lent e) 5 := Sh.tup (ShL.cons (Sh.str h.1 _) (ShL.cons (Sh.lst (ShL.map fun t _ => sh_tick t)) (ShL.nil _)))
theorem sh_ents (h : ∀ e ∈ es, OkE e) : ShL (es.map lent) 5 := ShL.map fun e he => sh_ent (h e he)
theorem back0 (hb : ws[b]? = some (bn ts q)) (hq : ws[q]? = some (.lst [])) (hc : ws[c]? = some (.lst [])) {d : D} : m__law_back_right [.cell b, .cell c, d] ws = .ok (.bl true) ws := by
  have e1 := eq_nil_cell hc (ShL.nil 0) (by omega)
  have a1 : ∀ r1 r2 r3 r4 : Option D, sAsk m__law_heard (sMeth "Bench" "undo" m_Bench_undo (sVar 0) sNil) [some (.cell b), r1, r2, r3, r4] ws = .ok (.tup [.str "nothing"]) ws := fun r1 r2 r3 r4 => by
    refine heard_non (ask := fun ws1 => sMeth "Bench" "undo" m_Bench_undo (sVar 0) sNil [some (.cell b), r1, r2, r3, r4] ws1) (ks := []) (es := []) ?_
    simp only [bodyM, startD, sSeq, sIfS, sB, sNot, sNotV, sAnd, sAndT, sOrT, sOp, sVar, sC, sRet, sExpr, sSet, sAsg, sPar, sAug, sCons, sNil, sTup, sLst, sCall, sCB, fb1, ↓RL.bind_m, R.ofO_some, R.ofO_none, R.ofO, List.map_cons, List.map_nil, List.length_cons, List.length_nil, List.cons_append, List.nil_append, List.append_nil, List.replicate, List.set_cons_zero, List.set_cons_succ, List.getElem?_cons_zero, List.getElem?_cons_succ, Option.bind_some, Option.map_some, Option.bind_none, Option.map_none, if_true, if_false, Bool.false_eq_true, decide_true, decide_false, Nat.reduceAdd, Nat.reduceSub, Bool.not_true, Bool.not_false, sIf, sYes, sNext, sBad, tgName, tgTup, tgCons, tgNil, tupOf, seqOf, lstOf, ↓reduceIte, Nat.zero_le, Nat.reduceLeDiff, sMeth, insB hb, show ¬ ("undo" : Str) ∈ (["own_now", "past"] : List Str) from by decide, bench_undo0 hb hq]
  have e2 := eq_self_D (ws := ws) (d := .tup [.str "nothing"]) (k := 1) (Sh.tup (ShL.cons (Sh.str (by decide +kernel) 0) (ShL.nil 0))) (by omega)
  simp only [m__law_back_right, g__law_back_right, N__law_back_right, bodyM, startD, sSeq, sIfS, sB, sNot, sNotV, sAnd, sAndT, sOrT, sOp, sVar, sC, sRet, sExpr, sSet, sAsg, sPar, sAug, sCons, sNil, sTup, sLst, sCall, sCB, fb1, ↓RL.bind_m, R.ofO_some, R.ofO_none, R.ofO, List.map_cons, List.map_nil, List.length_cons, List.length_nil, List.cons_append, List.nil_append, List.append_nil, List.replicate, List.set_cons_zero, List.set_cons_succ, List.getElem?_cons_zero, List.getElem?_cons_succ, Option.bind_some, Option.map_some, Option.bind_none, Option.map_none, if_true, if_false, Bool.false_eq_true, decide_true, decide_false, Nat.reduceAdd, Nat.reduceSub, Bool.not_true, Bool.not_false, sIf, sYes, sNext, sBad, tgName, tgTup, tgCons, tgNil, tupOf, seqOf, lstOf, ↓reduceIte, Nat.zero_le, Nat.reduceLeDiff, e1, a1, e2, fin_rt]
theorem back1 (hb : ws[b]? = some (bn ts q)) (hq : ws[q]? = some (.lst m)) (ha : ws[a]? = some (.lst l)) (hc : ws[c]? = some (.lst (es.map lent))) (hm : m ≠ []) (hl : l.length ≤ 6) (hes : ∀ e ∈ es, OkE e) {e : Str × List Tk} (hy : OkE e)
    (he : (es.map lent)[(es.map lent).length - 1]? = some (lent e)) (hme : m[m.length - 1]? = some (bent e)) (hlen : m.length = es.length) (hl2 : es.length < 1000) (bq : b ≠ q) (ab : a ≠ b) (aq : a ≠ q) (cb : c ≠ b) (cq : c ≠ q) (ca : c ≠ a) :
    m__law_back_right [.cell b, .cell c, .cell a] ws = .ok (.bl true) ((((ws.set c (.lst (es.map lent).dropLast)).set a (.lst (e.2.map dTick))).set q (.lst m.dropLast)).set b (bn e.2 q)) := by
  obtain ⟨w, ns⟩ := e
  obtain ⟨hy1, hy2, hy3, hy4⟩ := hy
  have hes0 : es ≠ [] := by
    rintro rfl
    simp at he
  have e1 := eq_nil_cell hc (sh_ents hes) (by omega)
  have e2 : decide (es.map lent = []) = false := decide_eq_false (by simpa using hes0)
  rw [e2] at e1
  obtain ⟨w1, hw1⟩ : ∃ w1, w1 = ws.set c (.lst (es.map lent).dropLast) := ⟨_, rfl⟩
  obtain ⟨w2, hw2⟩ : ∃ w2, w2 = w1.set a (.lst (ns.map dTick)) := ⟨_, rfl⟩
  have ha1 : w1[a]? = some (.lst l) := by rw [hw1, List.getElem?_set_ne ca]; exact ha
  have hb2 : w2[b]? = some (bn ts q) := by rw [hw2, List.getElem?_set_ne ab, hw1, List.getElem?_set_ne cb]; exact hb
  have hq2 : w2[q]? = some (.lst m) := by rw [hw2, List.getElem?_set_ne aq, hw1, List.getElem?_set_ne cq]; exact hq
  obtain ⟨w3, hw3⟩ : ∃ w3, w3 = (w2.set q (.lst m.dropLast)).set b (bn ns q) := ⟨_, rfl⟩
  have un := bench_undo hb2 hq2 hm hme bq
  rw [← hw3] at un
  have lb : b < w2.length := lt_of hb2
  have hb3 : w3[b]? = some (bn ns q) := by rw [hw3, List.getElem?_set_self (by simpa using lb)]
  have hq3 : w3[q]? = some (.lst m.dropLast) := by rw [hw3, List.getElem?_set_ne bq, List.getElem?_set_self (lt_of hq2)]
  have hc3 : w3[c]? = some (.lst (es.map lent).dropLast) := by rw [hw3, List.getElem?_set_ne (Ne.symm cb), List.getElem?_set_ne (Ne.symm cq), hw2, List.getElem?_set_ne (Ne.symm ca), hw1, List.getElem?_set_self (lt_of hc)]
  have ps := plan_str (ws := w3) hy3 hy4
  have lp := law_plan_textL (ws := w3) hy3 hy4
  have lo := lenO_ok (c := "Bench") (a := sCons (sVar 0) sNil) (ρ := [some (D.cell b), some (.cell c), some (.cell a), some (.str w), some (.lst (ns.map dTick))]) rfl (isB hb3) (bench_len hb3 hq3) (by rw [List.length_dropLast]; omega)
  have s1 : ∀ (v : List Ce) (x : Str), fEqS v (.str x) (.str x) = some (.bl true) := fun v x => by simp [fEqS, scalEq]
  have s2 : fEqS w3 (.int (m.dropLast.length : Nat)) (.int ((es.map lent).dropLast.length : Nat)) = some (.bl true) := by
    have : m.dropLast.length = (es.map lent).dropLast.length := by simp [hlen]
    rw [this]
    simp [fEqS, scalEq]
  have hy4' : ns.length ≤ 6 := hy4
  rw [List.length_map] at he
  have h10 : l.length + ns.length ≤ 100000 := by omega
  simp only [m__law_back_right, g__law_back_right, N__law_back_right, bodyM, startD, sSeq, sIfS, sB, sNot, sNotV, sAnd, sAndT, sOrT, sOp, sVar, sC, sRet, sExpr, sSet, sAsg, sPar, sAug, sCons, sNil, sTup, sLst, sCall, sCB, fb1, ↓RL.bind_m, R.ofO_some, R.ofO_none, R.ofO, List.map_cons, List.map_nil, List.length_cons, List.length_nil, List.cons_append, List.nil_append, List.append_nil, List.replicate, List.set_cons_zero, List.set_cons_succ, List.getElem?_cons_zero, List.getElem?_cons_succ, Option.bind_some, Option.map_some, Option.bind_none, Option.map_none, if_true, if_false, Bool.false_eq_true, decide_true, decide_false, Nat.reduceAdd, Nat.reduceSub, Bool.not_true, Bool.not_false, sIf, sYes, sNext, sBad, tgName, tgTup, tgCons, tgNil, tupOf, seqOf, lstOf, ↓reduceIte, Nat.zero_le, Nat.reduceLeDiff, e1, sMB, isTy, hc, beq_self_eq_true, fmPop0, he, lent, ← hw1, tgAll, ha1, List.length_map, h10, ← hw2, sMeth, insB hb2, show ¬ ("undo" : Str) ∈ (["own_now", "past"] : List Str) from by decide, un, s1, sStrO, isP, sProp, isB hb3, bench_now hb3, nox, ps, lp, lo, gLen, hc3, s2]
  rw [fin_rtL (by rw [hw3, hw2, hw1]; simp), hw3, hw2, hw1]
end
end K81
set_option Elab.async false
set_option linter.all false
set_option maxRecDepth 100000
set_option maxHeartbeats 4000000
namespace K81
open RL PySem L2 TL
/-- the law's state: the bench and what the law keeps of it -/
structure Iv (S : List Int) (a b q c : Nat) (j : Int) (ws : List Ce) (ts : List Tk) (es : List (Str × List Tk)) : Prop where
  X : Sx S 0 a b q c (.lst (es.map lent)) j ws ts es
  ok : ∀ e ∈ es, OkE e
/-- the pen is at 0 -/
def Pn (S : List Int) (j : Int) (ws : List Ce) : Prop := S.length ≤ 63 ∧ ∃ k g, ws[0]? = some (pen S k g) ∧ 0 ≤ k ∧ k ≤ j ∧ 0 ≤ g
section
variable {S : List Int} {p a b q c : Nat} {j j' : Int} {ws ws' ws0 : List Ce} {ts ts' ns : List Tk} {l m : List D} {w : Str} {es es' : List (Str × List Tk)} {oc oc' : Ce}
theorem Pn.dr (h : Pn S j ws) : Dr S 0 ws j ws := by
  obtain ⟨h0, k, g, h1, h2, h3, h4⟩ := h
  exact ⟨lt_of h1, h0, k, g, (set_self h1).symm, h2, h3, h4⟩
theorem Sx.pn (X : Sx S 0 a b q c oc j ws ts es) : Pn S j ws := ⟨X.hS, X.hp⟩
theorem Sx.setc (X : Sx S p a b q c oc j ws ts es) (oc' : Ce) : Sx S p a b q c oc' j (ws.set c oc') ts es :=
  { X with
    hp := by rw [List.getElem?_set_ne X.cp]; exact X.hp
    ha := by rw [List.getElem?_set_ne X.ca]; exact X.ha
    hb := by rw [List.getElem?_set_ne X.cb]; exact X.hb
    hq0 := by rw [List.getElem?_set_ne X.cq]; exact X.hq0
    hc := by rw [List.getElem?_set_self (lt_of X.hc)] }
theorem Iv.up (I : Iv S a b q c j ws ts es) (h : j ≤ j') : Iv S a b q c j' ws ts es := ⟨I.X.up h, I.ok⟩
theorem back (I : Iv S a b q c j ws ts es) (hn : es.length < 1000) : ∃ ws' ts' es', m__law_back_right [.cell b, .cell c, .cell a] ws = .ok (.bl true) ws' ∧ Iv S a b q c j ws' ts' es' ∧ es'.length = es.length - 1 := by
  have X := I.X
  have h6 := X.h6
  rcases List.eq_nil_or_concat es with rfl | ⟨fs, e, rfl⟩
  · exact ⟨ws, ts, [], back0 X.hb X.hq0 X.hc, I, rfl⟩
  · rw [List.concat_eq_append] at *
    have oke := I.ok e (by simp)
    have h1 := back1 X.hb X.hq0 X.ha X.hc (by simp) (by rw [List.length_map]; exact h6) I.ok oke (by simp) (by simp) (by simp) hn X.bq X.ab X.aq X.cb X.cq X.ca
    refine ⟨_, e.2, fs, h1, ⟨?_, fun x hx => I.ok x (List.mem_append_left _ hx)⟩, by simp⟩
    have d1 : ((fs ++ [e]).map lent).dropLast = fs.map lent := by simp
    have d2 : ((fs ++ [e]).map bent).dropLast = fs.map bent := by simp
    rw [d1, d2]
    have lb := lt_of X.hb
    have lq := lt_of X.hq0
    have la := lt_of X.ha
    have lc := lt_of X.hc
    exact {
      pa := X.pa
      pb := X.pb
      pq := X.pq
      ab := X.ab
      aq := X.aq
      bq := X.bq
      hS := X.hS
      hp := by rw [List.getElem?_set_ne (Ne.symm X.pb), List.getElem?_set_ne (Ne.symm X.pq), List.getElem?_set_ne (Ne.symm X.pa), List.getElem?_set_ne X.cp]; exact X.hp
      ha := by rw [List.getElem?_set_ne (Ne.symm X.ab), List.getElem?_set_ne (Ne.symm X.aq), List.getElem?_set_self (by simpa using la)]
      hb := by rw [List.getElem?_set_self (by simpa using lb)]
      hq0 := by rw [List.getElem?_set_ne X.bq, List.getElem?_set_self (by simpa using lq)]
      cp := X.cp
      ca := X.ca
      cb := X.cb
      cq := X.cq
      hc := by rw [List.getElem?_set_ne (Ne.symm X.cb), List.getElem?_set_ne (Ne.symm X.cq), List.getElem?_set_ne (Ne.symm X.ca), List.getElem?_set_self lc]
      gt := oke.2.2.1
      ne := oke.2.1
      h6 := oke.2.2.2 }
/-- the look behind a turn -/
theorem chk (I : Iv S a b q c j ws ts es) (hn : es.length < 1000) {u0 u1 u2 u5 u7 u8 : Option D} :
    (sIfS (sOrT (sB (sOp fNeS (sStrO "Plan" m_Plan___str__ (sCons (sProp "Bench" m_Bench_now (sVar 6)) sNil)) (sCall m__law_plan_text (sCons (sVar 3) sNil)))) (sOrT (sB (sOp fNeS (sLenO "Bench" m_Bench___len__ (sCons (sVar 6) sNil)) (sCB (fb1 gLen) (sCons (sVar 4) sNil)))) (sNot (sB (sCall m__law_refused_right (sCons (sVar 6) sNil)))))) (sRet (sC (.bl false))) sNext : Ss)
      [u0, u1, u2, some (.cell a), some (.cell c), u5, some (.cell b), u7, u8] ws = .ok ([u0, u1, u2, some (.cell a), some (.cell c), u5, some (.cell b), u7, u8], .nx) ws := by
  have X := I.X
  have h6 := X.h6
  have ps := plan_str (ws := ws) X.gt h6
  have lp := law_plan_text X.ha X.gt h6
  have bl := bench_len X.hb X.hq0
  rw [List.length_map] at bl
  have e1 : fNeS ws (.str (pText ts)) (.str (pText ts)) = some (.bl false) := by simp [fNeS, scalEq]
  have e2 : fNeS ws (.int (es.length : Nat)) (.int (es.length : Nat)) = some (.bl false) := by simp [fNeS, scalEq]
  have lo := lenO_ok (c := "Bench") (a := sCons (sVar 6) sNil) (ρ := [u0, u1, u2, some (.cell a), some (.cell c), u5, some (.cell b), u7, u8]) rfl (isB X.hb) bl (by omega)
  have rf := refused X.hb X.hq0 (by rw [List.length_map]; exact hn) X.ne h6
  simp only [bodyM, startD, sSeq, sIfS, sB, sNot, sNotV, sAnd, sAndT, sOrT, sOp, sVar, sC, sRet, sExpr, sSet, sAsg, sPar, sAug, sCons, sNil, sTup, sLst, sCall, sCB, fb1, ↓RL.bind_m, R.ofO_some, R.ofO_none, R.ofO, List.map_cons, List.map_nil, List.length_cons, List.length_nil, List.cons_append, List.nil_append, List.append_nil, List.replicate, List.set_cons_zero, List.set_cons_succ, List.getElem?_cons_zero, List.getElem?_cons_succ, Option.bind_some, Option.map_some, Option.bind_none, Option.map_none, if_true, if_false, Bool.false_eq_true, decide_true, decide_false, Nat.reduceAdd, Nat.reduceSub, Bool.not_true, Bool.not_false, sIf, sYes, sNext, sBad, tgName, tgTup, tgCons, tgNil, tupOf, seqOf, lstOf, ↓reduceIte, Nat.zero_le, Nat.reduceLeDiff, sStrO, sProp, isB X.hb, bench_now X.hb, nox, isP, ps, lp, e1, lo, gLen, X.hc, List.length_map, e2, rf]
theorem turn1 (I : Iv S a b q c j ws ts es) (hj : j + 201 ≤ 100000) (hn : es.length < 900) {u0 u2 u5 u7 u8 : Option D} :
    ∃ ws' ts' es' v7 v8, b_law_0 [u0, some (.cell 0), u2, some (.cell a), some (.cell c), u5, some (.cell b), u7, u8] ws = .ok ([u0, some (.cell 0), u2, some (.cell a), some (.cell c), u5, some (.cell b), v7, v8], .nx) ws' ∧ Iv S a b q c (j + 201) ws' ts' es' ∧ es'.length ≤ es.length + 1 := by
  obtain ⟨d, ws1, e1, D1, d1, d2⟩ := drw I.X.dr (n := 4) (by omega) (by omega) (by omega)
  have I1 : Iv S a b q c (j + 1) ws1 ts es := ⟨I.X.of D1, I.ok⟩
  by_cases h0 : d = 0
  · subst h0
    obtain ⟨ws2, ts2, es2, e2, I2, l2⟩ := back I1 (by omega)
    have n00 : decide ((0 : Int) = 0) = true := rfl
    have ck := chk I2 (by omega) (u0 := u0) (u1 := some (.cell 0)) (u2 := u2) (u5 := u5) (u7 := u7) (u8 := u8)
    refine ⟨ws2, ts2, es2, u7, u8, ?_, I2.up (by omega), by omega⟩
    generalize e3 : (sIfS (sOrT (sB (sOp fNeS (sStrO "Plan" m_Plan___str__ (sCons (sProp "Bench" m_Bench_now (sVar 6)) sNil)) (sCall m__law_plan_text (sCons (sVar 3) sNil)))) (sOrT (sB (sOp fNeS (sLenO "Bench" m_Bench___len__ (sCons (sVar 6) sNil)) (sCB (fb1 gLen) (sCons (sVar 4) sNil)))) (sNot (sB (sCall m__law_refused_right (sCons (sVar 6) sNil)))))) (sRet (sC (.bl false))) sNext : Ss) = K at ck ⊢
    unfold b_law_0
    rw [e3]
    simp only [bodyM, startD, sSeq, sIfS, sB, sNot, sNotV, sAnd, sAndT, sOrT, sOp, sVar, sC, sRet, sExpr, sSet, sAsg, sPar, sAug, sCons, sNil, sTup, sLst, sCall, sCB, fb1, ↓RL.bind_m, R.ofO_some, R.ofO_none, R.ofO, List.map_cons, List.map_nil, List.length_cons, List.length_nil, List.cons_append, List.nil_append, List.append_nil, List.replicate, List.set_cons_zero, List.set_cons_succ, List.getElem?_cons_zero, List.getElem?_cons_succ, Option.bind_some, Option.map_some, Option.bind_none, Option.map_none, if_true, if_false, Bool.false_eq_true, decide_true, decide_false, Nat.reduceAdd, Nat.reduceSub, Bool.not_true, Bool.not_false, sIf, sYes, sNext, sBad, tgName, tgTup, tgCons, tgNil, tupOf, seqOf, lstOf, ↓reduceIte, Nat.zero_le, Nat.reduceLeDiff, e1, eq_i, n00, e2, ck]
  · have nd0 : decide (d = 0) = false := by simp [h0]
    obtain ⟨x, ws2, ts2, es2, e2, X2, r2, l2⟩ := deed I1.X (by omega) (by omega)
    have gl : gList ws1 (.cell a) = some (.lst (ts.map dTick)) := by simp [gList, seqOf, I1.X.ha]
    rcases r2 with ⟨rfl, rfl⟩ | ⟨s, rfl, hs, rfl⟩
    · have I2 : Iv S a b q c (j + 201) ws2 ts2 es2 := ⟨X2.up (by omega), I.ok⟩
      have ck := chk I2 (by omega) (u0 := u0) (u1 := some (.cell 0)) (u2 := u2) (u5 := u5) (u7 := some (.lst (ts.map dTick))) (u8 := some .non)
      refine ⟨ws2, ts2, es2, some (.lst (ts.map dTick)), some .non, ?_, I2, by omega⟩
      generalize e3 : (sIfS (sOrT (sB (sOp fNeS (sStrO "Plan" m_Plan___str__ (sCons (sProp "Bench" m_Bench_now (sVar 6)) sNil)) (sCall m__law_plan_text (sCons (sVar 3) sNil)))) (sOrT (sB (sOp fNeS (sLenO "Bench" m_Bench___len__ (sCons (sVar 6) sNil)) (sCB (fb1 gLen) (sCons (sVar 4) sNil)))) (sNot (sB (sCall m__law_refused_right (sCons (sVar 6) sNil)))))) (sRet (sC (.bl false))) sNext : Ss) = K at ck ⊢
      unfold b_law_0
      rw [e3]
      simp only [bodyM, startD, sSeq, sIfS, sB, sNot, sNotV, sAnd, sAndT, sOrT, sOp, sVar, sC, sRet, sExpr, sSet, sAsg, sPar, sAug, sCons, sNil, sTup, sLst, sCall, sCB, fb1, ↓RL.bind_m, R.ofO_some, R.ofO_none, R.ofO, List.map_cons, List.map_nil, List.length_cons, List.length_nil, List.cons_append, List.nil_append, List.append_nil, List.replicate, List.set_cons_zero, List.set_cons_succ, List.getElem?_cons_zero, List.getElem?_cons_succ, Option.bind_some, Option.map_some, Option.bind_none, Option.map_none, if_true, if_false, Bool.false_eq_true, decide_true, decide_false, Nat.reduceAdd, Nat.reduceSub, Bool.not_true, Bool.not_false, sIf, sYes, sNext, sBad, tgName, tgTup, tgCons, tgNil, tupOf, seqOf, lstOf, ↓reduceIte, Nat.zero_le, Nat.reduceLeDiff, e1, eq_i, nd0, gl, e2, fIsN, isNonD, ck]
    · have I2 : Iv S a b q c (j + 201) (ws2.set c (.lst ((es ++ [(s, ts)]).map lent))) ts2 (es ++ [(s, ts)]) := ⟨(X2.setc _).up (by omega), fun e he => by
        rcases List.mem_append.mp he with h | h
        · exact I.ok e h
        · rw [List.mem_singleton] at h
          subst h
          exact ⟨hs, I.X.ne, I.X.gt, I.X.h6⟩⟩
      have ck := chk I2 (by simp; omega) (u0 := u0) (u1 := some (.cell 0)) (u2 := u2) (u5 := u5) (u7 := some (.lst (ts.map dTick))) (u8 := some (.str s))
      refine ⟨_, ts2, _, some (.lst (ts.map dTick)), some (.str s), ?_, I2, by simp⟩
      have hl5 : es.length < 100000 := by omega
      have cat : es.map lent ++ [.tup [.str s, .lst (ts.map dTick)]] = (es ++ [(s, ts)]).map lent := by simp [lent]
      generalize e3 : (sIfS (sOrT (sB (sOp fNeS (sStrO "Plan" m_Plan___str__ (sCons (sProp "Bench" m_Bench_now (sVar 6)) sNil)) (sCall m__law_plan_text (sCons (sVar 3) sNil)))) (sOrT (sB (sOp fNeS (sLenO "Bench" m_Bench___len__ (sCons (sVar 6) sNil)) (sCB (fb1 gLen) (sCons (sVar 4) sNil)))) (sNot (sB (sCall m__law_refused_right (sCons (sVar 6) sNil)))))) (sRet (sC (.bl false))) sNext : Ss) = K at ck ⊢
      unfold b_law_0
      rw [e3]
      simp only [bodyM, startD, sSeq, sIfS, sB, sNot, sNotV, sAnd, sAndT, sOrT, sOp, sVar, sC, sRet, sExpr, sSet, sAsg, sPar, sAug, sCons, sNil, sTup, sLst, sCall, sCB, fb1, ↓RL.bind_m, R.ofO_some, R.ofO_none, R.ofO, List.map_cons, List.map_nil, List.length_cons, List.length_nil, List.cons_append, List.nil_append, List.append_nil, List.replicate, List.set_cons_zero, List.set_cons_succ, List.getElem?_cons_zero, List.getElem?_cons_succ, Option.bind_some, Option.map_some, Option.bind_none, Option.map_none, if_true, if_false, Bool.false_eq_true, decide_true, decide_false, Nat.reduceAdd, Nat.reduceSub, Bool.not_true, Bool.not_false, sIf, sYes, sNext, sBad, tgName, tgTup, tgCons, tgNil, tupOf, seqOf, lstOf, ↓reduceIte, Nat.zero_le, Nat.reduceLeDiff, e1, eq_i, nd0, gl, e2, fIsN, isNonD, sMB, isTy, X2.hc, beq_self_eq_true, fmAppend, List.length_map, hl5, cat, ck]
theorem lap1 (P : Pn S j ws) (hj : j + 3000 ≤ 100000) {u0 u2 u3 u4 u5 u6 u7 u8 : Option D} :
    ∃ v3 v4 v5 v6 v7 v8 ws', b_law_2 [u0, some (.cell 0), u2, u3, u4, u5, u6, u7, u8] ws = .ok ([u0, some (.cell 0), u2, v3, v4, v5, v6, v7, v8], .nx) ws' ∧ Pn S (j + 3000) ws' := by
  obtain ⟨d, ws1, e1, D1, b1, b2⟩ := drw P.dr (n := 3) (by omega) (by omega) (by omega)
  obtain ⟨m, hm⟩ : ∃ m : Nat, d = (m : Nat) := ⟨d.toNat, by omega⟩
  subst hm
  obtain ⟨ts, ws2, z1, D2, g1, g2⟩ := plan1 (tg := tgName 5) (el := sCall m__law_tick (sCons (sVar 1) sNil)) (ρ := wipeD [u0, some (.cell 0), u2, u3, u4, u5, u6, u7, u8] [5])
    (all := intsD 0 (1 + (m : Int)).toNat) (p := 0) (by
      intro d w
      refine ⟨_, rfl, ?_⟩
      simp only [wipeD, bodyM, startD, sSeq, sIfS, sB, sNot, sNotV, sAnd, sAndT, sOrT, sOp, sVar, sC, sRet, sExpr, sSet, sAsg, sPar, sAug, sCons, sNil, sTup, sLst, sCall, sCB, fb1, ↓RL.bind_m, R.ofO_some, R.ofO_none, R.ofO, List.map_cons, List.map_nil, List.length_cons, List.length_nil, List.cons_append, List.nil_append, List.append_nil, List.replicate, List.set_cons_zero, List.set_cons_succ, List.getElem?_cons_zero, List.getElem?_cons_succ, Option.bind_some, Option.map_some, Option.bind_none, Option.map_none, if_true, if_false, Bool.false_eq_true, decide_true, decide_false, Nat.reduceAdd, Nat.reduceSub, Bool.not_true, Bool.not_false, sIf, sYes, sNext, sBad, tgName, tgTup, tgCons, tgNil, tupOf, seqOf, lstOf, ↓reduceIte, Nat.zero_le, Nat.reduceLeDiff]) D1 (ds := intsD 0 (1 + (m : Int)).toNat) (by rw [intsD_len]; omega) (by omega)
  have hts : ts.length = 1 + m := by rw [g2, intsD_len]; omega
  have hne : ts ≠ [] := by
    intro e
    rw [e] at hts
    simp at hts
    omega
  have h6 : ts.length ≤ 6 := by omega
  have hr1 : (-1000000 : Int) ≤ 1 + (m : Int) ∧ 1 + (m : Int) ≤ 1000000 := by omega
  obtain ⟨w3, hw3⟩ : ∃ w3, w3 = ws2 ++ [Ce.lst (ts.map dTick)] := ⟨_, rfl⟩
  obtain ⟨w3b, hw3b⟩ : ∃ w3b, w3b = w3 ++ [Ce.lst []] := ⟨_, rfl⟩
  obtain ⟨w4, hw4⟩ : ∃ w4, w4 = w3b ++ [bn ts (w3b.length + 1), Ce.lst []] := ⟨_, rfl⟩
  have l2 : 0 < ws2.length := by rw [D2.len]; exact D2.1
  have l3 : w3.length = ws2.length + 1 := by rw [hw3]; simp
  have l3b : w3b.length = ws2.length + 2 := by rw [hw3b]; simp [l3]
  have ha3 : w3[ws2.length]? = some (.lst (ts.map dTick)) := by rw [hw3]; exact last_get rfl
  have ha3b : w3b[ws2.length]? = some (.lst (ts.map dTick)) := by rw [hw3b, List.getElem?_append_left (by omega)]; exact ha3
  have pt := law_plan_text ha3b g1 h6
  have pr := plan_read (ws := w3b) hne g1 h6
  have bm := bench_mk (ts := ts) (ws := w3b)
  rw [← hw4] at bm
  have X : Sx S 0 ws2.length w3b.length (w3b.length + 1) w3.length (.lst (([] : List (Str × List Tk)).map lent)) (j + 81) w4 ts [] := {
    pa := by omega
    pb := by omega
    pq := by omega
    ab := by omega
    aq := by omega
    bq := by omega
    hS := P.1
    hp := by
      obtain ⟨h1, _, k, g, e, h2⟩ := D2
      refine ⟨k, g, ?_, by omega⟩
      rw [hw4, List.getElem?_append_left (by omega), hw3b, List.getElem?_append_left (by omega), hw3, List.getElem?_append_left (by omega), e, List.getElem?_set_self h1]
    ha := by rw [hw4, List.getElem?_append_left (by omega)]; exact ha3b
    hb := by rw [hw4]; simp
    hq0 := by rw [hw4]; simp
    cp := by omega
    ca := by omega
    cb := by omega
    cq := by omega
    hc := by rw [hw4, List.getElem?_append_left (by omega), hw3b]; exact last_get rfl
    gt := g1
    ne := hne
    h6 := h6 }
  obtain ⟨ρ', ws5, z2, ts5, es5, v5, v7, v8, rfl, I5, k1⟩ := for_inv (t := tgName 5) (body := b_law_0) (all := intsD 0 11)
    (fun ds ρ w => ∃ (ts' : List Tk) (es' : List (Str × List Tk)) (v5 v7 v8 : Option D), ρ = [u0, some (.cell 0), u2, some (.cell ws2.length), some (.cell w3.length), v5, some (.cell w3b.length), v7, v8] ∧ Iv S ws2.length w3b.length (w3b.length + 1) w3.length (j + 81 + 201 * (11 - ds.length)) w ts' es' ∧ es'.length + ds.length ≤ 11)
    (intsD 0 11) [u0, some (.cell 0), u2, some (.cell ws2.length), some (.cell w3.length), u5, some (.cell w3b.length), u7, u8] w4
    ⟨ts, [], u5, u7, u8, rfl, ⟨X.up (by rw [intsD_len]; omega), fun _ h => nomatch h⟩, by rw [intsD_len]; decide⟩ (by
      rintro d r ρ w ⟨ts', es', v5, v7, v8, rfl, I', k1⟩
      simp only [List.length_cons] at I' k1
      obtain ⟨w', ts2, es2, x7, x8, e2, I2, k3⟩ := turn1 (u0 := u0) (u2 := u2) (u5 := some d) (u7 := v7) (u8 := v8) I' (by omega) (by omega)
      exact ⟨_, w, _, w', rfl, e2, ts2, es2, some d, x7, x8, rfl, I2.up (by omega), by omega⟩)
  simp only [List.length_nil] at I5 k1
  obtain ⟨ρ', ws6, z3, ts6, es6, v5', rfl, I6⟩ := for_inv (t := tgName 5) (body := b_law_1) (all := intsD 0 ((es5.length : Nat) + 1 : Int).toNat)
    (fun ds ρ w => ∃ (ts' : List Tk) (es' : List (Str × List Tk)) (v5 : Option D), ρ = [u0, some (.cell 0), u2, some (.cell ws2.length), some (.cell w3.length), v5, some (.cell w3b.length), v7, v8] ∧ Iv S ws2.length w3b.length (w3b.length + 1) w3.length (j + 2900) w ts' es' ∧ es'.length < 1000)
    (intsD 0 ((es5.length : Nat) + 1 : Int).toNat) [u0, some (.cell 0), u2, some (.cell ws2.length), some (.cell w3.length), v5, some (.cell w3b.length), v7, v8] ws5
    ⟨ts5, es5, v5, rfl, I5.up (by omega), by omega⟩ (by
      rintro d r ρ w ⟨ts', es', v5, rfl, I', k1⟩
      obtain ⟨w', ts2, es2, e2, I2, k3⟩ := back I' k1
      refine ⟨_, w, _, w', rfl, ?_, ts2, es2, some d, rfl, I2, by omega⟩
      unfold b_law_1
      simp only [bodyM, startD, sSeq, sIfS, sB, sNot, sNotV, sAnd, sAndT, sOrT, sOp, sVar, sC, sRet, sExpr, sSet, sAsg, sPar, sAug, sCons, sNil, sTup, sLst, sCall, sCB, fb1, ↓RL.bind_m, R.ofO_some, R.ofO_none, R.ofO, List.map_cons, List.map_nil, List.length_cons, List.length_nil, List.cons_append, List.nil_append, List.append_nil, List.replicate, List.set_cons_zero, List.set_cons_succ, List.getElem?_cons_zero, List.getElem?_cons_succ, Option.bind_some, Option.map_some, Option.bind_none, Option.map_none, if_true, if_false, Bool.false_eq_true, decide_true, decide_false, Nat.reduceAdd, Nat.reduceSub, Bool.not_true, Bool.not_false, sIf, sYes, sNext, sBad, tgName, tgTup, tgCons, tgNil, tupOf, seqOf, lstOf, ↓reduceIte, Nat.zero_le, Nat.reduceLeDiff, e2])
  obtain ⟨I6, _⟩ := I6
  have r11 : (-1000000 : Int) ≤ 11 ∧ (11 : Int) ≤ 1000000 := by decide
  have r12 : (-1000000 : Int) ≤ (es5.length : Nat) + 1 ∧ ((es5.length : Nat) + 1 : Int) ≤ 1000000 := by omega
  refine ⟨some (.cell ws2.length), some (.cell w3.length), v5', some (.cell w3b.length), v7, v8, ws6, ?_, (I6.X.up (by omega)).pn⟩
  unfold b_law_2
  simp only [bodyM, startD, sSeq, sIfS, sB, sNot, sNotV, sAnd, sAndT, sOrT, sOp, sVar, sC, sRet, sExpr, sSet, sAsg, sPar, sAug, sCons, sNil, sTup, sLst, sCall, sCB, fb1, ↓RL.bind_m, R.ofO_some, R.ofO_none, R.ofO, List.map_cons, List.map_nil, List.length_cons, List.length_nil, List.cons_append, List.nil_append, List.append_nil, List.replicate, List.set_cons_zero, List.set_cons_succ, List.getElem?_cons_zero, List.getElem?_cons_succ, Option.bind_some, Option.map_some, Option.bind_none, Option.map_none, if_true, if_false, Bool.false_eq_true, decide_true, decide_false, Nat.reduceAdd, Nat.reduceSub, Bool.not_true, Bool.not_false, sIf, sYes, sNext, sBad, tgName, tgTup, tgCons, tgNil, tupOf, seqOf, lstOf, ↓reduceIte, Nat.zero_le, Nat.reduceLeDiff, e1, add_i, sLcM, sLcG, fzM, sItR1, hr1, and_self, z1, ← hw3, sLstM, ← hw3b, pt, sCm, pr, sMk, bm, sFor, r11, show (11 : Int).toNat = 11 from rfl, z2, gLen, I5.X.hc, List.length_map, r12, z3]
end
end K81
set_option Elab.async false
set_option linter.all false
set_option maxRecDepth 100000
set_option maxHeartbeats 4000000
namespace K81
open RL PySem L2 TL
theorem law_pen (S : List Int) (h : S.length ≤ 63) : m__law_pen [.fz (S.map .int)] [] = .ok (.cell 0) [pen S 0 0] := by
  have c : cutG (S.map D.int) none (some 63) = S.map .int := by
    have e : (63 : Int) = ((63 : Nat) : Int) := rfl
    rw [e]
    simp only [cutG, HT.sIx_none, HT.sIx_nat, List.length_map, List.drop_zero, Nat.sub_zero]
    rw [Nat.min_eq_right h, List.take_of_length_le (by simp)]
  have h2 : S.length ≤ 100000 := by omega
  simp only [m__law_pen, g__law_pen, N__law_pen, bodyM, startD, sSeq, sIfS, sB, sNot, sNotV, sAnd, sAndT, sOrT, sOp, sVar, sC, sRet, sExpr, sSet, sAsg, sPar, sAug, sCons, sNil, sTup, sLst, sCall, sCB, fb1, ↓RL.bind_m, R.ofO_some, R.ofO_none, R.ofO, List.map_cons, List.map_nil, List.length_cons, List.length_nil, List.cons_append, List.nil_append, List.append_nil, List.replicate, List.set_cons_zero, List.set_cons_succ, List.getElem?_cons_zero, List.getElem?_cons_succ, Option.bind_some, Option.map_some, Option.bind_none, Option.map_none, if_true, if_false, Bool.false_eq_true, decide_true, decide_false, Nat.reduceAdd, Nat.reduceSub, Bool.not_true, Bool.not_false, sIf, sYes, sNext, sBad, tgName, tgTup, tgCons, tgNil, tupOf, seqOf, lstOf, ↓reduceIte, Nat.zero_le, Nat.reduceLeDiff, sSlice, soNone, soSome, c, gList, seqOf, List.length_map, h2, sLstM, fin, flR]
  rfl
theorem plain (S : List Int) (h : S.length ≤ 63) : m_law [.fz (S.map .int)] [] = .ok (.bl true) [] := by
  obtain ⟨ρ', ws', z, w0, v2, v3, v4, v5, v6, v7, v8, rfl, P⟩ := for_inv (t := tgName 2) (body := b_law_2) (all := intsD 0 4)
    (fun ds ρ w => ∃ (_ : True) (v2 v3 v4 v5 v6 v7 v8 : Option D), ρ = [some (.fz (S.map .int)), some (.cell 0), v2, v3, v4, v5, v6, v7, v8] ∧ Pn S (3000 * (4 - ds.length)) w)
    (intsD 0 4) [some (.fz (S.map .int)), some (.cell 0), none, none, none, none, none, none, none] [pen S 0 0]
    ⟨trivial, none, none, none, none, none, none, none, rfl, h, 0, 0, rfl, by omega, by rw [intsD_len]; decide, by omega⟩ (by
      rintro d r ρ w ⟨_, v2, v3, v4, v5, v6, v7, v8, rfl, P⟩
      simp only [List.length_cons] at P
      obtain ⟨x3, x4, x5, x6, x7, x8, w', e, P'⟩ := lap1 (u0 := some (.fz (S.map .int))) (u2 := some d) (u3 := v3) (u4 := v4) (u5 := v5) (u6 := v6) (u7 := v7) (u8 := v8) P (by omega)
      obtain ⟨h0, k, g, h1, h2, h3, h4⟩ := P'
      exact ⟨_, w, _, w', rfl, e, trivial, some d, x3, x4, x5, x6, x7, x8, rfl, h0, k, g, h1, h2, by omega, h4⟩)
  have r4 : (-1000000 : Int) ≤ 4 ∧ (4 : Int) ≤ 1000000 := by decide
  simp only [m_law, g_law, N_law, bodyM, startD, sSeq, sIfS, sB, sNot, sNotV, sAnd, sAndT, sOrT, sOp, sVar, sC, sRet, sExpr, sSet, sAsg, sPar, sAug, sCons, sNil, sTup, sLst, sCall, sCB, fb1, ↓RL.bind_m, R.ofO_some, R.ofO_none, R.ofO, List.map_cons, List.map_nil, List.length_cons, List.length_nil, List.cons_append, List.nil_append, List.append_nil, List.replicate, List.set_cons_zero, List.set_cons_succ, List.getElem?_cons_zero, List.getElem?_cons_succ, Option.bind_some, Option.map_some, Option.bind_none, Option.map_none, if_true, if_false, Bool.false_eq_true, decide_true, decide_false, Nat.reduceAdd, Nat.reduceSub, Bool.not_true, Bool.not_false, sIf, sYes, sNext, sBad, tgName, tgTup, tgCons, tgNil, tupOf, seqOf, lstOf, ↓reduceIte, Nat.zero_le, Nat.reduceLeDiff, law_pen S h, sFor, sItR1, r4, and_self, show (4 : Int).toNat = 4 from rfl, z]
  have q := fin_rtA (ws := []) (xs := ws') (ρ := [some (.fz (S.map .int)), some (.cell 0), v2, v3, v4, v5, v6, v7, v8]) (d := .bl true) (d' := .bl true) rfl (fun _ => rfl)
  simpa using q
end K81
set_option Elab.async false
set_option linter.all false
set_option maxRecDepth 100000
set_option maxHeartbeats 0
open PySem PySem.W PySem.Calls PyProof.Rows
theorem PySem.Challenge.cw_laterepair_k81_whole_benches_led_back_holds : PySem.Challenge.rw_laterepair_k81_whole_benches_led_back.Holds := by
  w_on; o_law
  refine HandSHeadRun.head_any (r := OpenLaw.row PySem.Challenge.rw_laterepair_k81_whole_benches_led_back) (q := view (OpenLaw.row PySem.Challenge.rw_laterepair_k81_whole_benches_led_back).prog [48, 49, 50]) (H := K81.hk) (ob := K81.ob) (M := 30000) (loose := K81.l0 ++ K81.l1) (d := HandSHeadRun.topDef (OpenLaw.row PySem.Challenge.rw_laterepair_k81_whole_benches_led_back).prog 50) (kwd := []) K81.ob_eq
    (by kernel_rfl) (fun s => by kernel_rfl) K81.run (by kernel_rfl) (by kernel_rfl) (by kernel_rfl) (by rfl) (by first | assumption | decide +kernel) (by decide +kernel) ⟨rfl, rfl, rfl, rfl, rfl, by decide +kernel⟩ ?hw ?hc
  case hw => w_witness2
  case hc =>
    refine RL.walk_end (l := PySem.Challenge.rw_laterepair_k81_whole_benches_led_back) (n := 63) (k := 12) (m := K81.m_law) ["_law_back_right", "_law_refused_right", "law"] rfl (by decide) (by kernel_rfl) ⟨rfl, by decide, by decide⟩ (List.all_eq_true.mp (by kernel_rfl)) ?F fun ns h _ => K81.plain ns h
    intro w mg fa h Y G hmg0
    obtain ⟨K, KX, c⟩ := Y
    have hmg : mg ("law" : PySem.Str) = some (.ref fa) := by
      have e : (HandSHeadRun.topDef (OpenLaw.row PySem.Challenge.rw_laterepair_k81_whole_benches_led_back).prog 50).name = ("law" : PySem.Str) := by kernel_rfl
      rw [← e]
      exact hmg0
    have gl : mg ("law" : PySem.Str) = some (.ref (He.ga K "law")) := He.glo_ok KX G (c.fact 29 rfl)
    have e := hmg.symm.trans gl
    cases e
    exact ⟨K, KX, c.fact 140 rfl, fun base _ _ TB => (K81.ok_law (K81.fx_of (by kernel_rfl) (by kernel_rfl) KX G c) TB).1⟩

