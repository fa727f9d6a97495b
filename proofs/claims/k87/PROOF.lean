import PyProof.Rows.All
import Wide.All
import OpenK.AllK
import Wide.FinOn
import HandS.ForMost
import HandS.Exc
import HandS.HeadHook1
import HandS.Lambda
import KE.KNest
import HandS.IsInst
import HandS.Deep
import HandS.TupAny
import HandS.FStr
import HandS.Walk
import HandS.Words
import HandS.Star
import HandS.ExcCtx
import HandS.ClsMeth
import HandS.Property
import HandS.MakeKw
import HandS.MakeKwOnly
import HandS.WordsExc
import HandS.HeadHook2
import HandS.Style
import HandS.Comp
import HandS.Iter
import HandS.Text
import KE.GoesMore
import KE.GoesEnum
import HandS.MapJoin
import HandS.Small
import HandS.RaiseMore
import HandS.OwnEq
import PyProof.EqAt
import PyProof.EqKinds
import HandS.New
import HandS.MethStar
import HandS.IterVal
import HandS.Head0
import HandS.Head1
import HandS.Head2
import HandS.HeadEnd
import HandS.Ends
import HandS.EndBits
import HandS.EndTab
import HandS.ExcInit
import HandS.ExcOwn
import HandS.ExcField
import HandS.ExcIs
import KE.KExcSuper
import HandS.ExcValue
import HandS.Dict
import PyProof.CompFree
import HandS.HotCalls
import HandS.ExcInitHot
import HandS.SuiteRaise
import HandS.Finally
import HandS.Flow
import HandS.Codes
import KE.KStateDown
import HandS.More
import PyProof.ReprReads
import PySem.Challenge.RW_laterepair_k87_texts_of_packets
set_option Elab.async false
set_option linter.all false
set_option maxRecDepth 100000
/-! RL1: abstract values D, the abstract store (List Ce), what they stand for, results R, and how a reading follows from a semantic function. -/
namespace RL
open PySem PySem.Spec PyProof.Rows L2
abbrev Slots := L2.St
/-- an abstract value: cell n is the n-th mutable object of the store; tup, lst, ins are objects that are never written any more -/
inductive D where
  | non | bl (b : Bool) | int (i : Int) | str (s : Str)
  | tup (l : List D) | lst (l : List D) | ins (c : Str) (ks : List Str) (l : List D)
  | cell (n : Nat)
  | cls (c : Str)
  | fz (l : List D)
  /-- a caught exception; dicts that are never written any more: keys ints and texts, keys tuples of these -/
  | exc (c : Str) (ks : List Str) (l : List D)
  | dct (ks : List Key) (l : List D)
  | dcT (ks : List (List Key)) (l : List D)
/-- what a mutable object holds -/
inductive Ce where
  | lst (l : List D) | ins (c : Str) (ks : List Str) (l : List D) | dead | dct (ks : List Key) (l : List D) | dcT (ks : List (List Key)) (l : List D)
mutual
/-- are they alike, sign by sign -/
def sameD : D → D → Bool
  | .non, .non => true
  | .bl a, .bl b => a == b
  | .int a, .int b => a == b
  | .str a, .str b => decide (a = b)
  | .tup a, .tup b => sameDs a b
  | .lst a, .lst b => sameDs a b
  | .ins c k a, .ins d m b => decide (c = d) && decide (k = m) && sameDs a b
  | .cell a, .cell b => a == b
  | .cls a, .cls b => decide (a = b)
  | .fz a, .fz b => sameDs a b
  | .exc c k a, .exc d m b => decide (c = d) && decide (k = m) && sameDs a b
  | .dct k a, .dct m b => decide (k = m) && sameDs a b
  | .dcT k a, .dcT m b => decide (k = m) && sameDs a b
  | _, _ => false
def sameDs : List D → List D → Bool
  | [], [] => true
  | a :: l, b :: m => sameD a b && sameDs l m
  | _, _ => false
end
mutual
theorem sameD_refl : ∀ a : D, sameD a a = true
  | .non => rfl
  | .bl a => by simp [sameD]
  | .int a => by simp [sameD]
  | .str a => by simp [sameD]
  | .tup a => by simp [sameD, sameDs_refl a]
  | .lst a => by simp [sameD, sameDs_refl a]
  | .ins c k a => by simp [sameD, sameDs_refl a]
  | .cell a => by simp [sameD]
  | .cls a => by simp [sameD]
  | .fz a => by simp [sameD, sameDs_refl a]
  | .exc c k a => by simp [sameD, sameDs_refl a]
  | .dct k a => by simp [sameD, sameDs_refl a]
  | .dcT k a => by simp [sameD, sameDs_refl a]
theorem sameDs_refl : ∀ l : List D, sameDs l l = true
  | [] => rfl
  | a :: l => by simp [sameDs, sameD_refl a, sameDs_refl l]
end
mutual
theorem sameD_eq : ∀ a b : D, sameD a b = true → a = b
  | .non, b, h => by cases b <;> simp_all [sameD]
  | .bl a, b, h => by cases b <;> simp_all [sameD]
  | .int a, b, h => by cases b <;> simp_all [sameD]
  | .str a, b, h => by cases b <;> simp_all [sameD]
  | .tup a, b, h => by
    cases b <;> simp [sameD] at h
    rw [sameDs_eq _ _ h]
  | .lst a, b, h => by
    cases b <;> simp [sameD] at h
    rw [sameDs_eq _ _ h]
  | .ins c k a, b, h => by
    cases b <;> simp [sameD] at h
    rw [sameDs_eq _ _ h.2, h.1.1, h.1.2]
  | .cell a, b, h => by cases b <;> simp_all [sameD]
  | .cls a, b, h => by cases b <;> simp_all [sameD]
  | .fz a, b, h => by
    cases b <;> simp [sameD] at h
    rw [sameDs_eq _ _ h]
  | .exc c k a, b, h => by
    cases b <;> simp [sameD] at h
    rw [sameDs_eq _ _ h.2, h.1.1, h.1.2]
  | .dct k a, b, h => by
    cases b <;> simp [sameD] at h
    rw [sameDs_eq _ _ h.2, h.1]
  | .dcT k a, b, h => by
    cases b <;> simp [sameD] at h
    rw [sameDs_eq _ _ h.2, h.1]
theorem sameDs_eq : ∀ l m : List D, sameDs l m = true → l = m
  | [], m, h => by cases m <;> simp_all [sameDs]
  | a :: l, m, h => by
    cases m <;> simp [sameDs] at h
    rw [sameD_eq _ _ h.1, sameDs_eq _ _ h.2]
end
instance : DecidableEq D := fun a b => if h : sameD a b = true then .isTrue (sameD_eq a b h) else .isFalse fun e => h (by rw [e]; exact sameD_refl b)
def sameC : Ce → Ce → Bool
  | .lst a, .lst b => sameDs a b
  | .ins c k a, .ins d m b => decide (c = d) && decide (k = m) && sameDs a b
  | .dead, .dead => true
  | .dct k a, .dct m b => decide (k = m) && sameDs a b
  | .dcT k a, .dcT m b => decide (k = m) && sameDs a b
  | _, _ => false
theorem sameC_refl : ∀ a : Ce, sameC a a = true
  | .lst a => sameDs_refl a
  | .ins c k a => by simp [sameC, sameDs_refl a]
  | .dead => rfl
  | .dct k a => by simp [sameC, sameDs_refl a]
  | .dcT k a => by simp [sameC, sameDs_refl a]
theorem sameC_eq : ∀ a b : Ce, sameC a b = true → a = b
  | .lst a, b, h => by
    cases b <;> simp [sameC] at h
    rw [sameDs_eq _ _ h]
  | .ins c k a, b, h => by
    cases b <;> simp [sameC] at h
    rw [sameDs_eq _ _ h.2, h.1.1, h.1.2]
  | .dead, b, h => by cases b <;> simp_all [sameC]
  | .dct k a, b, h => by
    cases b <;> simp [sameC] at h
    rw [sameDs_eq _ _ h.2, h.1]
  | .dcT k a, b, h => by
    cases b <;> simp [sameC] at h
    rw [sameDs_eq _ _ h.2, h.1]
instance : DecidableEq Ce := fun a b => if h : sameC a b = true then .isTrue (sameC_eq a b h) else .isFalse fun e => h (by rw [e]; exact sameC_refl b)
/-- an exception: its class, the fields of its own dict -/
structure Ex where
  c : Str
  ks : List Str
  l : List D
/-- a result with the store behind it; bad: not told -/
inductive R (α : Type) where
  | ok (a : α) (ws : List Ce) | ex (e : Ex) (ws : List Ce) | bad
def R.bind {α β : Type} (r : R α) (f : α → List Ce → R β) : R β := match r with
  | .ok a ws => f a ws
  | .ex e ws => .ex e ws
  | .bad => .bad
@[simp] theorem R.bind_ok {α β : Type} (a : α) (ws : List Ce) (f : α → List Ce → R β) : (R.ok a ws).bind f = f a ws := rfl
@[simp] theorem R.bind_ex {α β : Type} (e : Ex) (ws : List Ce) (f : α → List Ce → R β) : (R.ex e ws : R α).bind f = .ex e ws := rfl
@[simp] theorem R.bind_bad {α β : Type} (f : α → List Ce → R β) : (R.bad : R α).bind f = .bad := rfl
def R.ofO {α : Type} (o : Option α) (ws : List Ce) : R α := match o with
  | some a => .ok a ws
  | none => .bad
@[simp] theorem R.ofO_some {α : Type} (a : α) (ws : List Ce) : R.ofO (some a) ws = .ok a ws := rfl
@[simp] theorem R.ofO_none {α : Type} (ws : List Ce) : R.ofO (none : Option α) ws = .bad := rfl
/-- an exception object of a class, its dict at dd -/
def ExH (cls : Value) (dd : Option Addr) (a : Addr) : HO := .ext fun h => ∃ (oe : Obj) (vs : Array Value), h.get? a = some oe ∧ Zc cls dd oe ∧ oe.data = .fields vs
/-- an exception's fields, no dict if there are none -/
def XdAt (G : Hp) (dd : Option Addr) (ks : List Str) (vs : List V) : Prop := (dd = none ∧ ks = []) ∨ ∃ b, dd = some b ∧ G b = some (.xd (ks.zip vs))
theorem XdAt.up {G G' : Hp} {dd : Option Addr} {ks : List Str} {vs : List V} (h : XdAt G dd ks vs) (hG : Same G G') : XdAt G' dd ks vs := by
  rcases h with h | ⟨b, e, h⟩
  · exact .inl h
  · exact .inr ⟨b, e, hG _ _ h⟩
/-! ### what an abstract value stands for: as the addresses of the store's objects, G the heap of what is never written -/
section
variable (K : PySem.W.Frag) (as : List Addr) (G : Hp)
mutual
def Rep : D → V → Prop
  | .non, v => v = .non
  | .bl b, v => v = .bl b
  | .int i, v => v = .int i
  | .str s, v => v = .str s
  | .tup l, v => ∃ a vs, v = .ref a ∧ G a = some (.tup vs) ∧ Reps l vs
  | .lst l, v => ∃ a vs, v = .ref a ∧ G a = some (.lst vs) ∧ Reps l vs
  | .ins c ks l, v => ∃ a dx vs, v = .ref a ∧ G a = some (.ins (He.ga K c) dx (ks.zip vs)) ∧ ks.length = l.length ∧ Reps l vs
  | .cell n, v => ∃ a, as[n]? = some a ∧ v = .ref a
  | .cls c, v => v = .ref (He.ga K c)
  | .fz l, v => ∃ a vs, v = .ref a ∧ SqL K G a vs ∧ Reps l vs
  | .exc c ks l, v => ∃ a dd vs, v = .ref a ∧ G a = some (ExH (.ref (He.ga K c)) dd a) ∧ XdAt G dd ks vs ∧ ks.length = l.length ∧ Reps l vs
  | .dct ks l, v => ∃ a vs, v = .ref a ∧ G a = some (.dK (ks.zip vs)) ∧ ks.length = l.length ∧ Reps l vs
  | .dcT ks l, v => ∃ a vs, v = .ref a ∧ G a = some (.dT (ks.zip vs)) ∧ ks.length = l.length ∧ Reps l vs
def Reps : List D → List V → Prop
  | [], vs => vs = []
  | d :: ds, vs => ∃ v r, vs = v :: r ∧ Rep d v ∧ Reps ds r
end
def RepC : Ce → HO → Prop
  | .lst l, o => ∃ vs, o = .lst vs ∧ Reps K as G l vs
  | .ins c ks l, o => ∃ dx vs, o = .ins (He.ga K c) dx (ks.zip vs) ∧ ks.length = l.length ∧ Reps K as G l vs
  | .dead, _ => True
  | .dct ks l, o => ∃ vs, o = .dK (ks.zip vs) ∧ ks.length = l.length ∧ Reps K as G l vs
  | .dcT ks l, o => ∃ vs, o = .dT (ks.zip vs) ∧ ks.length = l.length ∧ Reps K as G l vs
end
theorem Reps.len {K : PySem.W.Frag} {as : List Addr} {G : Hp} : ∀ {ds : List D} {vs : List V}, Reps K as G ds vs → ds.length = vs.length
  | [], vs, h => by simp [Reps] at h; simp [h]
  | d :: ds, vs, h => by
    simp only [Reps] at h
    obtain ⟨v, r, e, _, h2⟩ := h
    rw [e, List.length_cons, List.length_cons, Reps.len h2]
theorem Reps.get {K : PySem.W.Frag} {as : List Addr} {G : Hp} : ∀ {ds : List D} {vs : List V} {i : Nat} {d : D}, Reps K as G ds vs → ds[i]? = some d → ∃ v, vs[i]? = some v ∧ Rep K as G d v
  | [], vs, i, d, h, e => by simp at e
  | d' :: ds, vs, 0, d, h, e => by
    simp only [Reps] at h
    obtain ⟨v, r, ev, h1, h2⟩ := h
    simp at e
    exact ⟨v, by simp [ev], by rw [← e]; exact h1⟩
  | d' :: ds, vs, i + 1, d, h, e => by
    simp only [Reps] at h
    obtain ⟨v, r, ev, h1, h2⟩ := h
    simp at e
    obtain ⟨v', e', h'⟩ := Reps.get h2 e
    exact ⟨v', by rw [ev]; simpa using e', h'⟩
theorem Reps.app {K : PySem.W.Frag} {as : List Addr} {G : Hp} : ∀ {ds es : List D} {vs us : List V}, Reps K as G ds vs → Reps K as G es us → Reps K as G (ds ++ es) (vs ++ us)
  | [], es, vs, us, h, h' => by
    simp only [Reps] at h
    rw [h]
    exact h'
  | d :: ds, es, vs, us, h, h' => by
    simp only [Reps] at h
    obtain ⟨v, r, e, h1, h2⟩ := h
    rw [e]
    show Reps K as G (d :: (ds ++ es)) (v :: (r ++ us))
    simp only [Reps]
    exact ⟨v, _, rfl, h1, Reps.app h2 h'⟩
theorem Reps.nil {K : PySem.W.Frag} {as : List Addr} {G : Hp} : Reps K as G [] [] := by simp [Reps]
theorem Reps.cons {K : PySem.W.Frag} {as : List Addr} {G : Hp} {d : D} {ds : List D} {v : V} {vs : List V} (h : Rep K as G d v) (h' : Reps K as G ds vs) : Reps K as G (d :: ds) (v :: vs) := by
  simp only [Reps]
  exact ⟨v, vs, rfl, h, h'⟩
theorem Reps.one {K : PySem.W.Frag} {as : List Addr} {G : Hp} {d : D} {v : V} (h : Rep K as G d v) : Reps K as G [d] [v] := Reps.cons h Reps.nil
theorem Reps.uncons {K : PySem.W.Frag} {as : List Addr} {G : Hp} {d : D} {ds : List D} {vs : List V} (h : Reps K as G (d :: ds) vs) : ∃ v r, vs = v :: r ∧ Rep K as G d v ∧ Reps K as G ds r := by
  simp only [Reps] at h
  exact h
theorem Reps.unnil {K : PySem.W.Frag} {as : List Addr} {G : Hp} {vs : List V} (h : Reps K as G [] vs) : vs = [] := by simpa [Reps] using h
/-- more is known -/
theorem prefix_get {α : Type} {as bs : List α} (h : as <+: bs) {n : Nat} {a : α} (e : as[n]? = some a) : bs[n]? = some a := by
  obtain ⟨r, rfl⟩ := h
  rw [List.getElem?_append_left (by
    have := (List.getElem?_eq_some_iff.mp e).1
    exact this)]
  exact e
section
variable {K : PySem.W.Frag} {as bs : List Addr} {G G' : Hp}
theorem sqL_up {a : Addr} {vs : List V} (hG : Same G G') (h : SqL K G a vs) : SqL K G' a vs := by
  rcases h with (h | ⟨o, h⟩) | h
  · exact .inl (.inl (hG _ _ h))
  · exact .inl (.inr ⟨o, hG _ _ h⟩)
  · exact .inr h
mutual
theorem Rep.up (hp : as <+: bs) (hG : Same G G') : ∀ {d : D} {v : V}, Rep K as G d v → Rep K bs G' d v
  | .non, v, h => by simpa [Rep] using h
  | .bl b, v, h => by simpa [Rep] using h
  | .int i, v, h => by simpa [Rep] using h
  | .str s, v, h => by simpa [Rep] using h
  | .tup l, v, h => by
    simp only [Rep] at h ⊢
    obtain ⟨a, vs, e, g, h⟩ := h
    exact ⟨a, vs, e, hG _ _ g, Reps.up hp hG h⟩
  | .lst l, v, h => by
    simp only [Rep] at h ⊢
    obtain ⟨a, vs, e, g, h⟩ := h
    exact ⟨a, vs, e, hG _ _ g, Reps.up hp hG h⟩
  | .ins c ks l, v, h => by
    simp only [Rep] at h ⊢
    obtain ⟨a, dx, vs, e, g, hl, h⟩ := h
    exact ⟨a, dx, vs, e, hG _ _ g, hl, Reps.up hp hG h⟩
  | .cell n, v, h => by
    simp only [Rep] at h ⊢
    obtain ⟨a, e, g⟩ := h
    exact ⟨a, prefix_get hp e, g⟩
  | .cls c, v, h => by simpa [Rep] using h
  | .fz l, v, h => by
    simp only [Rep] at h ⊢
    obtain ⟨a, vs, e, g, h⟩ := h
    exact ⟨a, vs, e, sqL_up hG g, Reps.up hp hG h⟩
  | .exc c ks l, v, h => by
    simp only [Rep] at h ⊢
    obtain ⟨a, dd, vs, e, g, x, hl, h⟩ := h
    exact ⟨a, dd, vs, e, hG _ _ g, x.up hG, hl, Reps.up hp hG h⟩
  | .dct ks l, v, h => by
    simp only [Rep] at h ⊢
    obtain ⟨a, vs, e, g, hl, h⟩ := h
    exact ⟨a, vs, e, hG _ _ g, hl, Reps.up hp hG h⟩
  | .dcT ks l, v, h => by
    simp only [Rep] at h ⊢
    obtain ⟨a, vs, e, g, hl, h⟩ := h
    exact ⟨a, vs, e, hG _ _ g, hl, Reps.up hp hG h⟩
theorem Reps.up (hp : as <+: bs) (hG : Same G G') : ∀ {ds : List D} {vs : List V}, Reps K as G ds vs → Reps K bs G' ds vs
  | [], vs, h => by simpa [Reps] using h
  | d :: ds, vs, h => by
    simp only [Reps] at h ⊢
    obtain ⟨v, r, e, h1, h2⟩ := h
    exact ⟨v, r, e, Rep.up hp hG h1, Reps.up hp hG h2⟩
end
theorem RepC.up (hp : as <+: bs) (hG : Same G G') : ∀ {c : Ce} {o : HO}, RepC K as G c o → RepC K bs G' c o
  | .lst l, o, h => by
    obtain ⟨vs, e, h⟩ := h
    exact ⟨vs, e, Reps.up hp hG h⟩
  | .ins c ks l, o, h => by
    obtain ⟨dx, vs, e, hl, h⟩ := h
    exact ⟨dx, vs, e, hl, Reps.up hp hG h⟩
  | .dead, o, _ => trivial
  | .dct ks l, o, h => by
    obtain ⟨vs, e, hl, h⟩ := h
    exact ⟨vs, e, hl, Reps.up hp hG h⟩
  | .dcT ks l, o, h => by
    obtain ⟨vs, e, hl, h⟩ := h
    exact ⟨vs, e, hl, Reps.up hp hG h⟩
end
/-! ### the tables of code objects: of the defs of these names that make lambdas -/
def lamNames : List Str := ["_law_back_right", "_law_bench_right", "_law_blocked", "_law_due", "_law_line_right", "_law_one_right", "_law_packets_right", "_law_phases_right", "_law_play_right", "_law_read", "_law_refused_right", "_law_rest_right", "_law_right", "_law_tried_right", "_law_turn_right", "_law_values_right", "_law_work", "law"]
def tabsK (K : PySem.W.Frag) : List (Addr × Str) := lamNames.filterMap fun x => (PySem.W.tabIn K x).map fun c => (c.2, x ++ ".<locals>." ++ "<lambda>")
/-- tracked, and no table -/
def Hn (H : Hp) (b : Addr) : Prop := ∃ o, H b = some o ∧ ∀ ps, o ≠ .tbl ps
theorem Hn.ne {H : Hp} {b : Addr} (h : Hn H b) : H b ≠ none := by
  obtain ⟨o, e, _⟩ := h
  rw [e]
  simp
theorem Hn.of {H : Hp} {b : Addr} {o : HO} (e : H b = some o) (h : ∀ ps, o ≠ .tbl ps := by intro _ z; cases z) : Hn H b := ⟨o, e, h⟩
theorem not_hn {H : Hp} {b : Addr} (e : H b = none) : ¬ Hn H b := fun h => h.ne e
theorem Hn.upd {H : Hp} {p b : Addr} {o : HO} (h : Hn H b) (ho : ∀ ps, o ≠ .tbl ps) : Hn (upd H p o) b := by
  by_cases q : b = p
  · subst q
    exact ⟨o, upd_same, ho⟩
  · obtain ⟨u, e, k⟩ := h
    exact ⟨u, by rw [upd_ne q]; exact e, k⟩
theorem ext_tbl {φ : Heap → Prop} : ∀ ps, HO.ext φ ≠ .tbl ps := fun ps z => by cases z
/-! ### the state: G below H, the store's objects apart -/
structure Wd (K : PySem.W.Frag) (G H : Hp) (as : List Addr) (ws : List Ce) : Prop where
  le : Same G H
  len : as.length = ws.length
  nd : as.Nodup
  out : ∀ a ∈ as, G a = none ∧ Hn H a
  at_ : ∀ (i : Nat) (c : Ce) (a : Addr), ws[i]? = some c → as[i]? = some a → c = .dead ∨ ∃ o, H a = some o ∧ RepC K as G c o
  tb : LamX.Tabs (tabsK K) H
  ng : ∀ b ps, G b ≠ some (.tbl ps)
/-- from one state to a later one -/
structure Rch (G H : Hp) (as : List Addr) (G' H' : Hp) (as' : List Addr) : Prop where
  up : Same G G'
  pre : as <+: as'
  fr : ∀ b o, b ∉ as → H b = some o → (∀ ps, o ≠ .tbl ps) → H' b = some o
  nw : ∀ b, Hn H b → G b = none → G' b = none
  fs : ∀ a, a ∈ as' → a ∈ as ∨ ¬ Hn H a
  th : ∀ b, Hn H b → Hn H' b
theorem Rch.refl {G H : Hp} {as : List Addr} : Rch G H as G H as := ⟨Same.refl _, List.prefix_refl _, fun _ _ _ h _ => h, fun _ _ h => h, fun _ h => .inl h, fun _ h => h⟩
theorem Rch.trans {G H G1 H1 G2 H2 : Hp} {as as1 as2 : List Addr} (a : Rch G H as G1 H1 as1) (b : Rch G1 H1 as1 G2 H2 as2) : Rch G H as G2 H2 as2 where
  up := a.up.trans b.up
  pre := a.pre.trans b.pre
  fr := fun x o hx e k => b.fr x o (fun h => by
    rcases a.fs x h with h | h
    · exact hx h
    · exact h ⟨o, e, k⟩) (a.fr x o hx e k) k
  nw := fun x hx e => b.nw x (a.th x hx) (a.nw x hx e)
  fs := fun x h => by
    rcases b.fs x h with h | h
    · exact a.fs x h
    · exact .inr fun z => h (a.th x z)
  th := fun x h => b.th x (a.th x h)
/-- at p lies no table and no code object -/
def NoTab (H : Hp) (p : Addr) : Prop := ∀ u, H p = some u → (∀ ps, u ≠ .tbl ps) ∧ ∀ q, u ≠ LamX.CodeO p q
theorem NoTab.none {H : Hp} {p : Addr} (h : H p = none) : NoTab H p := fun u e => by
  rw [h] at e
  cases e
theorem NoTab.of {H : Hp} {p : Addr} {o : HO} (h : H p = some o) (h1 : ∀ ps, o ≠ .tbl ps := by intro _ z; cases z) (h2 : ∀ q, o ≠ LamX.CodeO p q := by intro _ z; cases z) : NoTab H p := fun u e => by
  rw [h] at e
  cases e
  exact ⟨h1, h2⟩
theorem tabs_upd {T : List (Addr × Str)} {H : Hp} {p : Addr} {o : HO} (t : LamX.Tabs T H) (h : NoTab H p) : LamX.Tabs T (upd H p o) := fun x hx => by
  obtain ⟨ps, e, k, hc⟩ := t x hx
  refine ⟨ps, ?_, k, fun pos cv hv => ?_⟩
  · rw [upd_ne (fun z => by
      rw [z] at e
      exact (h _ e).1 ps rfl)]
    exact e
  · obtain ⟨c, e1, e2⟩ := hc pos cv hv
    refine ⟨c, e1, ?_⟩
    rw [upd_ne (fun z => by
      subst z
      exact (h _ e2).2 _ rfl)]
    exact e2
theorem tabs_new {T : List (Addr × Str)} {H : Hp} {p : Addr} {o : HO} (t : LamX.Tabs T H) (h : H p = none) : LamX.Tabs T (upd H p o) := tabs_upd t (.none h)
/-- a new object that is never written -/
theorem Rch.new {G H : Hp} {as : List Addr} {p : Addr} {o : HO} (hg : Same G H) (h : H p = none) (ho : ∀ ps, o ≠ .tbl ps := by intro _ z; cases z) : Rch G H as (upd G p o) (upd H p o) as where
  up := fun b u e => by
    rw [upd_ne (fun q => by
      rw [q] at e
      rw [hg _ _ e] at h
      cases h)]
    exact e
  pre := List.prefix_refl _
  fr := fun b u _ e _ => by rw [upd_ne (ne_of_none e h)]; exact e
  nw := fun b hb e => by
    rw [upd_ne (fun q => hb.ne (by rw [q]; exact h))]
    exact e
  fs := fun _ h => .inl h
  th := fun b hb => hb.upd ho
theorem Wd.new {K : PySem.W.Frag} {G H : Hp} {as : List Addr} {ws : List Ce} {p : Addr} {o : HO} (W : Wd K G H as ws) (h : H p = none) (ho : ∀ ps, o ≠ .tbl ps := by intro _ z; cases z) : Wd K (upd G p o) (upd H p o) as ws where
  le := fun b u e => by
    by_cases hb : b = p
    · rw [hb, upd_same] at e
      rw [hb, upd_same]
      exact e
    · rw [upd_ne hb] at e
      rw [upd_ne hb]
      exact W.le _ _ e
  len := W.len
  nd := W.nd
  out := fun a ha => by
    have q := W.out a ha
    have ne : a ≠ p := fun z => q.2.ne (by rw [z]; exact h)
    refine ⟨?_, q.2.upd ho⟩
    rw [upd_ne ne]
    exact q.1
  at_ := fun i c a e e' => by
    rcases W.at_ i c a e e' with q | ⟨o', q, r⟩
    · exact .inl q
    · refine .inr ⟨o', ?_, r.up (List.prefix_refl _) (Rch.new (as := as) W.le h ho).up⟩
      rw [upd_ne (ne_of_none q h)]
      exact q
  tb := tabs_new W.tb h
  ng := fun b ps z => by
    by_cases hb : b = p
    · rw [hb, upd_same] at z
      exact ho ps (Option.some.inj z)
    · rw [upd_ne hb] at z
      exact W.ng _ _ z
/-- a new object that H tracks but no one speaks of -/
theorem Rch.newH {G H : Hp} {as : List Addr} {p : Addr} {o : HO} (h : H p = none) (ho : ∀ ps, o ≠ .tbl ps := by intro _ z; cases z) : Rch G H as G (upd H p o) as where
  up := Same.refl _
  pre := List.prefix_refl _
  fr := fun b u _ e _ => by rw [upd_ne (ne_of_none e h)]; exact e
  nw := fun b hb e => e
  fs := fun _ h => .inl h
  th := fun b hb => hb.upd ho
theorem Wd.newH {K : PySem.W.Frag} {G H : Hp} {as : List Addr} {ws : List Ce} {p : Addr} {o : HO} (W : Wd K G H as ws) (h : H p = none) (ho : ∀ ps, o ≠ .tbl ps := by intro _ z; cases z) : Wd K G (upd H p o) as ws where
  le := fun b u e => by
    have q := W.le _ _ e
    rw [upd_ne (ne_of_none q h)]
    exact q
  len := W.len
  nd := W.nd
  out := fun a ha => ⟨(W.out a ha).1, (W.out a ha).2.upd ho⟩
  at_ := fun i c a e e' => by
    rcases W.at_ i c a e e' with q | ⟨o', q, r⟩
    · exact .inl q
    · refine .inr ⟨o', ?_, r⟩
      rw [upd_ne (ne_of_none q h)]
      exact q
  tb := tabs_new W.tb h
  ng := W.ng
/-- a new mutable object -/
theorem prefix_snoc {α : Type} (as : List α) (p : α) : as <+: as ++ [p] := ⟨[p], rfl⟩
theorem Rch.cell {G H : Hp} {as : List Addr} {p : Addr} {o : HO} (h : H p = none) (ho : ∀ ps, o ≠ .tbl ps := by intro _ z; cases z) : Rch G H as G (upd H p o) (as ++ [p]) where
  up := Same.refl _
  pre := prefix_snoc _ _
  fr := fun b u _ e _ => by rw [upd_ne (ne_of_none e h)]; exact e
  nw := fun b hb e => e
  fs := fun a ha => by
    rcases List.mem_append.mp ha with q | q
    · exact .inl q
    · rw [List.mem_singleton.mp q]
      exact .inr (not_hn h)
  th := fun b hb => hb.upd ho
theorem Wd.cell {K : PySem.W.Frag} {G H : Hp} {as : List Addr} {ws : List Ce} {p : Addr} {o : HO} {c : Ce} (W : Wd K G H as ws) (h : H p = none) (r : RepC K (as ++ [p]) G c o) (ho : ∀ ps, o ≠ .tbl ps := by intro _ z; cases z) : Wd K G (upd H p o) (as ++ [p]) (ws ++ [c]) where
  le := (W.newH h ho).le
  len := by rw [List.length_append, List.length_append, W.len] <;> rfl
  nd := by
    refine List.nodup_append.mpr ⟨W.nd, by simp, fun a ha b hb => ?_⟩
    rw [List.mem_singleton.mp hb]
    exact fun z => (W.out a ha).2.ne (by rw [z]; exact h)
  out := fun a ha => by
    rcases List.mem_append.mp ha with q | q
    · exact (W.newH h ho).out a q
    · rw [List.mem_singleton.mp q]
      refine ⟨?_, o, upd_same, ho⟩
      cases e : G p with
      | none => rfl
      | some u =>
        rw [W.le _ _ e] at h
        cases h
  at_ := fun i c' a e e' => by
    by_cases hi : i < ws.length
    · rw [List.getElem?_append_left hi] at e
      rw [List.getElem?_append_left (by rw [W.len]; exact hi)] at e'
      rcases (W.newH (o := o) h ho).at_ i c' a e e' with q | ⟨o', q, r'⟩
      · exact .inl q
      · exact .inr ⟨o', q, r'.up (prefix_snoc _ _) (Same.refl _)⟩
    · have hi' : i = ws.length := by
        have := (List.getElem?_eq_some_iff.mp e).1
        rw [List.length_append, List.length_singleton] at this
        omega
      subst hi'
      rw [List.getElem?_append_right (Nat.le_refl _)] at e
      rw [List.getElem?_append_right (by rw [W.len] <;> exact Nat.le_refl _)] at e'
      simp [W.len] at e e'
      subst e e'
      exact .inr ⟨o, upd_same, r⟩
  tb := tabs_new W.tb h
  ng := W.ng
/-- a mutable object is written -/
theorem Rch.put {G H : Hp} {as : List Addr} {p : Addr} {o : HO} (hp : p ∈ as) (ho : ∀ ps, o ≠ .tbl ps := by intro _ z; cases z) : Rch G H as G (upd H p o) as where
  up := Same.refl _
  pre := List.prefix_refl _
  fr := fun b u hb e _ => by rw [upd_ne (fun q => hb (by rw [q]; exact hp))]; exact e
  nw := fun b hb e => e
  fs := fun _ h => .inl h
  th := fun b hb => hb.upd ho
/-- what a store's object is that is no dead one: no table, no code object -/
theorem RepC.plain {K : PySem.W.Frag} {as : List Addr} {G : Hp} {c : Ce} {o : HO} (h : RepC K as G c o) (hd : c ≠ .dead) : (∀ ps, o ≠ .tbl ps) ∧ ∀ c q, o ≠ LamX.CodeO c q := by
  cases c with
  | lst l =>
    obtain ⟨vs, e, _⟩ := h
    subst e
    exact ⟨fun ps z => (by cases z), fun c q z => (by cases z)⟩
  | ins c ks l =>
    obtain ⟨dx, vs, e, _⟩ := h
    subst e
    exact ⟨fun ps z => (by cases z), fun c q z => (by cases z)⟩
  | dead => exact absurd rfl hd
  | dct ks l =>
    obtain ⟨vs, e, _⟩ := h
    subst e
    exact ⟨fun ps z => (by cases z), fun c q z => (by cases z)⟩
  | dcT ks l =>
    obtain ⟨vs, e, _⟩ := h
    subst e
    exact ⟨fun ps z => (by cases z), fun c q z => (by cases z)⟩
theorem Wd.put {K : PySem.W.Frag} {G H : Hp} {as : List Addr} {ws : List Ce} {p : Addr} {o : HO} {c c0 : Ce} {n : Nat} (W : Wd K G H as ws) (hn : as[n]? = some p) (h0 : ws[n]? = some c0) (hd : c0 ≠ .dead) (r : RepC K as G c o) (ho : ∀ ps, o ≠ .tbl ps := by intro _ z; cases z) : Wd K G (upd H p o) as (ws.set n c) where
  le := fun b u e => by
    have q := W.le _ _ e
    have hp := W.out p (List.mem_of_getElem? hn)
    rw [upd_ne (fun z => by rw [z, hp.1] at e; cases e)]
    exact q
  len := by rw [List.length_set]; exact W.len
  nd := W.nd
  out := fun a ha => ⟨(W.out a ha).1, (W.out a ha).2.upd ho⟩
  at_ := fun i c' a e e' => by
    by_cases hi : i = n
    · subst hi
      rw [hn] at e'
      cases e'
      have hl : i < ws.length := by rw [← W.len]; exact (List.getElem?_eq_some_iff.mp hn).1
      rw [List.getElem?_set_self hl] at e
      cases e
      exact .inr ⟨o, upd_same, r⟩
    · rw [List.getElem?_set_ne (fun z => hi z.symm)] at e
      rcases W.at_ i c' a e e' with q | ⟨o', q, r'⟩
      · exact .inl q
      · refine .inr ⟨o', ?_, r'⟩
        have ne : a ≠ p := fun z => by
          subst z
          have h1 := (List.getElem?_eq_some_iff.mp e')
          have h2 := (List.getElem?_eq_some_iff.mp hn)
          exact hi ((List.getElem_inj W.nd).mp (h1.2.trans h2.2.symm))
        rw [upd_ne ne]
        exact q
  tb := tabs_upd W.tb fun u e => by
    rcases W.at_ n c0 p h0 hn with q | ⟨o', q, r'⟩
    · exact absurd q hd
    · rw [q] at e
      cases e
      exact ⟨(r'.plain hd).1, fun q => (r'.plain hd).2 _ q⟩
  ng := W.ng
/-- the store cut back: what was made since is forgotten -/
theorem Wd.kill {K : PySem.W.Frag} {G H : Hp} {as : List Addr} {ws : List Ce} {n : Nat} (W : Wd K G H as ws) : Wd K G H as (ws.set n .dead) where
  le := W.le
  len := by rw [List.length_set]; exact W.len
  nd := W.nd
  out := W.out
  at_ := fun i c a e e' => by
    by_cases hi : i = n
    · subst hi
      have hl : i < ws.length := by rw [← W.len]; exact (List.getElem?_eq_some_iff.mp e').1
      rw [List.getElem?_set_self hl] at e
      cases e
      exact .inl rfl
    · rw [List.getElem?_set_ne (fun z => hi z.symm)] at e
      exact W.at_ i c a e e'
  tb := W.tb
  ng := W.ng
/-! ### the slots -/
def SRep (K : PySem.W.Frag) (as : List Addr) (G : Hp) (ρ : List (Option D)) (σ : L2.St) : Prop := ρ.length = σ.length ∧ ∀ (i : Nat) (d : D), ρ[i]? = some (some d) → ∃ v, σ[i]? = some (some v) ∧ Rep K as G d v
theorem SRep.up {K : PySem.W.Frag} {as bs : List Addr} {G G' : Hp} {ρ : List (Option D)} {σ : L2.St} (hp : as <+: bs) (hG : Same G G') (h : SRep K as G ρ σ) : SRep K bs G' ρ σ := ⟨h.1, fun i d e => by
  obtain ⟨v, e', r⟩ := h.2 i d e
  exact ⟨v, e', r.up hp hG⟩⟩
theorem SRep.set {K : PySem.W.Frag} {as : List Addr} {G : Hp} {ρ : List (Option D)} {σ : L2.St} {i : Nat} {d : D} {v : V} (h : SRep K as G ρ σ) (r : Rep K as G d v) : SRep K as G (ρ.set i (some d)) (σ.set i (some v)) := ⟨by rw [List.length_set, List.length_set]; exact h.1, fun j e q => by
  by_cases hj : j = i
  · subst hj
    have hl : j < ρ.length := by have := (List.getElem?_eq_some_iff.mp q).1; rw [List.length_set] at this; exact this
    rw [List.getElem?_set_self hl] at q
    cases q
    exact ⟨v, List.getElem?_set_self (by rw [← h.1]; exact hl), r⟩
  · rw [List.getElem?_set_ne (fun z => hj z.symm)] at q
    rw [List.getElem?_set_ne (fun z => hj z.symm)]
    exact h.2 j e q⟩
theorem SRep.forget {K : PySem.W.Frag} {as : List Addr} {G : Hp} {ρ : List (Option D)} {σ : L2.St} {i : Nat} {v : Option V} (h : SRep K as G ρ σ) : SRep K as G (ρ.set i none) (σ.set i v) := ⟨by rw [List.length_set, List.length_set]; exact h.1, fun j e q => by
  by_cases hj : j = i
  · subst hj
    have hl : j < ρ.length := by have := (List.getElem?_eq_some_iff.mp q).1; rw [List.length_set] at this; exact this
    rw [List.getElem?_set_self hl] at q
    cases q
  · rw [List.getElem?_set_ne (fun z => hj z.symm)] at q
    rw [List.getElem?_set_ne (fun z => hj z.symm)]
    exact h.2 j e q⟩
/-! ### what follows -/
section
variable (K : PySem.W.Frag) (E : XK)
/-- an exception as it lies -/
def RepX (as : List Addr) (G : Hp) (e : Ex) (cls : Value) (dd : Option Addr) : Prop := cls = .ref (He.ga K e.c) ∧ ∃ vs, XdAt G dd e.ks vs ∧ e.ks.length = e.l.length ∧ Reps K as G e.l vs
def PostX (G H : Hp) (as : List Addr) (e : Ex) (ws' : List Ce) : Prop := ∀ cls dd G' H' as', Rch G H as G' H' as' → Wd K G' H' as' ws' → RepX K as' G' e cls dd → E cls dd H'
/-- rel: how an abstract answer stands for one -/
def Post {α β : Type} (rel : List Addr → Hp → α → β → Prop) (G H : Hp) (as : List Addr) (out : R α) (Q : β → Hp → Prop) : Prop := match out with
  | .ok a ws' => ∀ b G' H' as', Rch G H as G' H' as' → Wd K G' H' as' ws' → rel as' G' a b → Q b H'
  | .ex e ws' => PostX K E G H as e ws'
  | .bad => False
variable {K E}
theorem Post.from {α β : Type} {rel : List Addr → Hp → α → β → Prop} {G H G1 H1 : Hp} {as as1 : List Addr} {out : R α} {Q : β → Hp → Prop} (h : Post K E rel G H as out Q) (r : Rch G H as G1 H1 as1) : Post K E rel G1 H1 as1 out Q := by
  cases out with
  | ok a ws' => exact fun b G' H' as' q => h b G' H' as' (r.trans q)
  | ex e ws' => exact fun cls dd G' H' as' q => h cls dd G' H' as' (r.trans q)
  | bad => exact h
theorem Post.bind {α β α' β' : Type} {rel : List Addr → Hp → α → β → Prop} {rel' : List Addr → Hp → α' → β' → Prop} {G H : Hp} {as : List Addr} {out : R α} {f : α → List Ce → R α'} {Q' : β' → Hp → Prop} (h : Post K E rel' G H as (out.bind f) Q')
    {Q : β → Hp → Prop} (k : ∀ a ws1 b G1 H1 as1, Rch G H as G1 H1 as1 → Wd K G1 H1 as1 ws1 → rel as1 G1 a b → Post K E rel' G1 H1 as1 (f a ws1) Q' → Q b H1) : Post K E rel G H as out Q := by
  cases out with
  | ok a ws' => exact fun b G1 H1 as1 r w q => k a ws' b G1 H1 as1 r w q (Post.from h r)
  | ex e ws' => exact h
  | bad => exact h
theorem Post.done {α β : Type} {rel : List Addr → Hp → α → β → Prop} {G H : Hp} {as : List Addr} {a : α} {b : β} {ws : List Ce} {Q : β → Hp → Prop} (h : Post K E rel G H as (.ok a ws) Q) (w : Wd K G H as ws) (r : rel as G a b) : Q b H := h b G H as Rch.refl w r
/-- a pure last step -/
theorem Post.ofO {α β : Type} {rel : List Addr → Hp → α → β → Prop} {G H : Hp} {as : List Addr} {o : Option α} {ws : List Ce} {Q : β → Hp → Prop} (h : Post K E rel G H as (R.ofO o ws) Q) : ∃ a, o = some a ∧ Post K E rel G H as (.ok a ws) Q := by
  cases o with
  | none => exact False.elim h
  | some a => exact ⟨a, rfl, h⟩
end
def relB : List Addr → Hp → Bool → Bool → Prop := fun _ _ a b => a = b
def relO : List Addr → Hp → Option Int → Option Int → Prop := fun _ _ a b => a = b
/-! ### judgements -/
abbrev Se := List (Option D) → List Ce → R D
abbrev Sb := List (Option D) → List Ce → R Bool
abbrev Sa := List (Option D) → List Ce → R (List D)
abbrev So := List (Option D) → List Ce → R (Option Int)
/-- how a statement ends -/
inductive Fl where
  | nx | rt (d : D) | bk | ct
abbrev Ss := List (Option D) → List Ce → R (List (Option D) × Fl)
section
variable (K : PySem.W.Frag) (E : XK)
def EvE (te : TE) (f : Se) : Prop := ∀ ρ ws G H as σ Q, Wd K G H as ws → SRep K as G ρ σ → Post K E (Rep K) G H as (f ρ ws) Q → te σ H Q
def EvT (tt : TT) (f : Sb) : Prop := ∀ ρ ws G H as σ Q, Wd K G H as ws → SRep K as G ρ σ → Post K E relB G H as (f ρ ws) Q → tt σ H Q
def EvA (ta : TA) (f : Sa) : Prop := ∀ ρ ws G H as σ Q, Wd K G H as ws → SRep K as G ρ σ → Post K E (Reps K) G H as (f ρ ws) Q → ta σ H Q
def EvO (to : TO) (f : So) : Prop := ∀ ρ ws G H as σ Q, Wd K G H as ws → SRep K as G ρ σ → Post K E relO G H as (f ρ ws) Q → to σ H Q
/-- what a statement's end wants -/
def PostS (G H : Hp) (as : List Addr) (out : R (List (Option D) × Fl)) (D : Ends) : Prop := match out with
  | .ok (ρ', fl) ws' => (match fl with
    | .nx => ∀ G' H' as' σ', Rch G H as G' H' as' → Wd K G' H' as' ws' → SRep K as' G' ρ' σ' → D.nx σ' H'
    | .bk => ∀ G' H' as' σ', Rch G H as G' H' as' → Wd K G' H' as' ws' → SRep K as' G' ρ' σ' → D.bk σ' H'
    | .ct => ∀ G' H' as' σ', Rch G H as G' H' as' → Wd K G' H' as' ws' → SRep K as' G' ρ' σ' → D.ct σ' H'
    | .rt d => ∀ v G' H' as', Rch G H as G' H' as' → Wd K G' H' as' ws' → Rep K as' G' d v → D.rt v H')
  | .ex e ws' => PostX K E G H as e ws'
  | .bad => False
def EvS (ts : TS) (f : Ss) : Prop := ∀ ρ ws G H as σ D, Wd K G H as ws → SRep K as G ρ σ → PostS K E G H as (f ρ ws) D → ts D σ H
end
structure AE (K : PySem.W.Frag) (X : Cx) (E : XK) (e : Expr) (te : TE) (f : Se) : Prop where
  hK : X.K = K
  pe : PE X e te
  ev : EvE K E te f
structure AT (K : PySem.W.Frag) (X : Cx) (E : XK) (e : Expr) (tt : TT) (f : Sb) : Prop where
  hK : X.K = K
  pe : PT X e tt
  ev : EvT K E tt f
structure AW (K : PySem.W.Frag) (X : Cx) (E : XK) (e : Expr) (tt : TT) (f : Sb) : Prop where
  hK : X.K = K
  pe : PW X e tt
  ev : EvT K E tt f
structure AA (K : PySem.W.Frag) (X : Cx) (E : XK) (es : List Expr) (ta : TA) (f : Sa) : Prop where
  hK : X.K = K
  pe : PA X es ta
  ev : EvA K E ta f
structure AO (K : PySem.W.Frag) (X : Cx) (E : XK) (e : Option Expr) (to : TO) (f : So) : Prop where
  hK : X.K = K
  pe : PO X e to
  ev : EvO K E to f
structure AS (K : PySem.W.Frag) (X : Cx) (E : XK) (st : Stmt) (ts : TS) (f : Ss) : Prop where
  hK : X.K = K
  pe : PS X st ts
  ev : EvS K E ts f
structure ASs (K : PySem.W.Frag) (X : Cx) (E : XK) (sts : List Stmt) (ts : TS) (f : Ss) : Prop where
  hK : X.K = K
  pe : PSs X sts ts
  ev : EvS K E ts f
section
variable {K : PySem.W.Frag} {E : XK}
theorem PostS.from {G H G1 H1 : Hp} {as as1 : List Addr} {out : R (List (Option D) × Fl)} {D : Ends} (h : PostS K E G H as out D) (r : Rch G H as G1 H1 as1) : PostS K E G1 H1 as1 out D := by
  cases out with
  | ok a ws' =>
    obtain ⟨ρ', fl⟩ := a
    cases fl with
    | nx => exact fun G' H' as' σ' q => h G' H' as' σ' (r.trans q)
    | bk => exact fun G' H' as' σ' q => h G' H' as' σ' (r.trans q)
    | ct => exact fun G' H' as' σ' q => h G' H' as' σ' (r.trans q)
    | rt d => exact fun v G' H' as' q => h v G' H' as' (r.trans q)
  | ex e ws' => exact fun cls dd G' H' as' q => h cls dd G' H' as' (r.trans q)
  | bad => exact h
theorem PostS.bind {α β : Type} {rel : List Addr → Hp → α → β → Prop} {G H : Hp} {as : List Addr} {out : R α} {f : α → List Ce → R (List (Option D) × Fl)} {D : Ends} (h : PostS K E G H as (out.bind f) D)
    {Q : β → Hp → Prop} (k : ∀ a ws1 b G1 H1 as1, Rch G H as G1 H1 as1 → Wd K G1 H1 as1 ws1 → rel as1 G1 a b → PostS K E G1 H1 as1 (f a ws1) D → Q b H1) : Post K E rel G H as out Q := by
  cases out with
  | ok a ws' => exact fun b G1 H1 as1 r w q => k a ws' b G1 H1 as1 r w q (PostS.from h r)
  | ex e ws' => exact h
  | bad => exact h
end
end RL
set_option Elab.async false
set_option linter.all false
set_option maxRecDepth 100000
/-! RL2: rules for expressions: a semantic function each, and that the construct follows it. -/
namespace RL
open PySem PySem.Spec PyProof.Rows L2
/-! ### constants, names -/
def sC (d : D) : Se := fun _ ws => .ok d ws
def sVar (i : Nat) : Se := fun ρ ws => match ρ[i]? with
  | some (some d) => .ok d ws
  | _ => .bad
/-- the plain end of a rule -/
theorem EvE.const {K : PySem.W.Frag} {E : XK} {d : D} {v : V} (h : ∀ as G, Rep K as G d v) : EvE K E (tC v) (sC d) := fun ρ ws G H as σ Q W S P => Post.done P W (h as G)
theorem evVar {K : PySem.W.Frag} {E : XK} {i : Nat} : EvE K E (tVar i) (sVar i) := fun ρ ws G H as σ Q W S P => by
  unfold sVar at P
  cases e : ρ[i]? with
  | none =>
    rw [e] at P
    exact False.elim P
  | some o =>
    cases o with
    | none =>
      rw [e] at P
      exact False.elim P
    | some d =>
      rw [e] at P
      obtain ⟨v, e', r⟩ := S.2 i d e
      exact ⟨v, e', Post.done P W r⟩
section
variable {K : PySem.W.Frag} {X : Cx} {E : XK} {pos : Pos}
theorem av (i : Nat) {x : Str} (hK : X.K = K := by rfl) (hN : X.N[i]? = some x := by rfl) (hv : Vis X.env.scope x := by first | exact Or.inl rfl | exact Or.inr (Or.inl rfl) | exact Or.inr (Or.inr rfl)) (hd : (x == ("__debug__" : Str)) = false := by decide)
    (hcd : (x == ("__classdict__" : Str)) = false := by decide) : AE K X E (.Name x pos) (tVar i) (sVar i) := ⟨hK, pe_var hN hv hd hcd, evVar⟩
theorem ae_int {i j} (hK : X.K = K := by rfl) : AE K X E (.Constant (.int i) j pos) (tC (.int i)) (sC (.int i)) := ⟨hK, pe_int, .const fun _ _ => by simp [Rep]⟩
theorem ae_bl {b j} (hK : X.K = K := by rfl) : AE K X E (.Constant (.bool b) j pos) (tC (.bl b)) (sC (.bl b)) := ⟨hK, pe_bl, .const fun _ _ => by simp [Rep]⟩
theorem ae_non {j} (hK : X.K = K := by rfl) : AE K X E (.Constant .none j pos) (tC .non) (sC .non) := ⟨hK, pe_non, .const fun _ _ => by simp [Rep]⟩
theorem ae_str {x j} (hK : X.K = K := by rfl) : AE K X E (.Constant (.str x) j pos) (tC (.str x)) (sC (.str x)) := ⟨hK, pe_str, .const fun _ _ => by simp [Rep]⟩
theorem ae_globI {x : Str} {i : Int} (hm : ∃ t, X.mg x = some (.int i t)) (hK : X.K = K := by rfl) (hg : Gl X x := by rfl) (hd : (x == ("__debug__" : Str)) = false := by decide) : AE K X E (.Name x pos) (tC (.int i)) (sC (.int i)) :=
  let ⟨t, e⟩ := hm
  ⟨hK, pe_glob (v := .int i) hg e ⟨t, rfl⟩ hd, .const fun _ _ => by simp [Rep]⟩
end
/-! ### what an abstract value is, concretely -/
/-- the items of a tuple or list -/
def seqOf (ws : List Ce) : D → Option (List D)
  | .tup l => some l
  | .lst l => some l
  | .cell n => (match ws[n]? with
    | some (.lst l) => some l
    | _ => none)
  | _ => none
def lstOf (ws : List Ce) : D → Option (List D)
  | .lst l => some l
  | .cell n => (match ws[n]? with
    | some (.lst l) => some l
    | _ => none)
  | _ => none
def tupOf : D → Option (List D)
  | .tup l => some l
  | _ => none
section
variable {K : PySem.W.Frag} {G H : Hp} {as : List Addr} {ws : List Ce}
theorem Wd.cellAt (W : Wd K G H as ws) {n : Nat} {c : Ce} {v : V} (e : ws[n]? = some c) (hd : c ≠ .dead) (r : Rep K as G (.cell n) v) : ∃ a o, v = .ref a ∧ as[n]? = some a ∧ H a = some o ∧ RepC K as G c o := by
  simp only [Rep] at r
  obtain ⟨a, e', ev⟩ := r
  rcases W.at_ n c a e e' with q | ⟨o, q, r⟩
  · exact absurd q hd
  · exact ⟨a, o, ev, e', q, r⟩
theorem lst_rep (W : Wd K G H as ws) {d : D} {l : List D} {v : V} (e : lstOf ws d = some l) (r : Rep K as G d v) : ∃ a vs, v = .ref a ∧ H a = some (.lst vs) ∧ Reps K as G l vs := by
  cases d with
  | lst l' =>
    cases e
    simp only [Rep] at r
    obtain ⟨a, vs, e1, e2, e3⟩ := r
    exact ⟨a, vs, e1, W.le _ _ e2, e3⟩
  | cell n =>
    simp only [lstOf] at e
    cases q : ws[n]? with
    | none => rw [q] at e; cases e
    | some c =>
      rw [q] at e
      cases c with
      | lst l' =>
        cases e
        obtain ⟨a, o, e1, _, e3, e4⟩ := W.cellAt q (fun z => by cases z) r
        obtain ⟨vs, e5, e6⟩ := e4
        subst e5
        exact ⟨a, vs, e1, e3, e6⟩
      | _ => cases e
  | _ => cases e
theorem tup_rep (W : Wd K G H as ws) {d : D} {l : List D} {v : V} (e : tupOf d = some l) (r : Rep K as G d v) : ∃ a vs, v = .ref a ∧ H a = some (.tup vs) ∧ Reps K as G l vs := by
  cases d with
  | tup l' =>
    cases e
    simp only [Rep] at r
    obtain ⟨a, vs, e1, e2, e3⟩ := r
    exact ⟨a, vs, e1, W.le _ _ e2, e3⟩
  | _ => cases e
theorem seqOf_cases {d : D} {l : List D} (e : seqOf ws d = some l) : lstOf ws d = some l ∨ tupOf d = some l := by
  cases d with
  | tup l' => exact .inr e
  | lst l' => exact .inl e
  | cell n => exact .inl e
  | _ => cases e
theorem seq_rep (W : Wd K G H as ws) {d : D} {l : List D} {v : V} (e : seqOf ws d = some l) (r : Rep K as G d v) : ∃ a vs, v = .ref a ∧ (SqL K H a vs ∨ SqT K H a vs) ∧ Reps K as G l vs := by
  rcases seqOf_cases e with e | e
  · obtain ⟨a, vs, e1, e2, e3⟩ := lst_rep W e r
    exact ⟨a, vs, e1, .inl (.inl (.inl e2)), e3⟩
  · obtain ⟨a, vs, e1, e2, e3⟩ := tup_rep W e r
    exact ⟨a, vs, e1, .inr (.inl (.inl e2)), e3⟩
end
theorem small5 {n : Nat} (h : n ≤ 100000) : n ≤ sizeLine := Nat.le_trans h (by decide)
theorem small5' {n : Nat} (h : n < 100000) : n < sizeLine := Nat.lt_of_lt_of_le h (by decide)
/-! ### operators by values -/
/-- r is followed by f (which looks at the store) -/
def OpD (K : PySem.W.Frag) (r : R2) (f : List Ce → D → D → Option D) : Prop := ∀ ws G H as x y d e z Q, Wd K G H as ws → Rep K as G d x → Rep K as G e y → f ws d e = some z →
  (∀ v G' H' as', Rch G H as G' H' as' → Wd K G' H' as' ws → Rep K as' G' z v → Q v H') → r x y H Q
def sOp (f : List Ce → D → D → Option D) (a b : Se) : Se := fun ρ ws => (a ρ ws).bind fun x ws1 => (b ρ ws1).bind fun y ws2 => R.ofO (f ws2 x y) ws2
theorem evOp {K : PySem.W.Frag} {E : XK} {r : R2} {f : List Ce → D → D → Option D} {ta tb : TE} {a b : Se} (h : OpD K r f) (ha : EvE K E ta a) (hb : EvE K E tb b) : EvE K E (tOp r ta tb) (sOp f a b) := fun ρ ws G H as σ Q W S P => by
  refine ha ρ ws G H as σ _ W S (Post.bind P fun x ws1 v G1 H1 as1 r1 W1 rx P1 => ?_)
  refine hb ρ ws1 G1 H1 as1 σ _ W1 (S.up r1.pre r1.up) (Post.bind P1 fun y ws2 u G2 H2 as2 r2 W2 ry P2 => ?_)
  obtain ⟨z, e, P3⟩ := Post.ofO P2
  exact h ws2 G2 H2 as2 v u x y z Q W2 (rx.up r2.pre r2.up) ry e fun v' G' H' as' q w rep => P3 v' G' H' as' q w rep
section
variable {K : PySem.W.Frag}
theorem OpD.pure {r : R2} {f : List Ce → D → D → Option D} (h : ∀ ws G H as x y d e z Q, Wd K G H as ws → Rep K as G d x → Rep K as G e y → f ws d e = some z → (∀ v, Rep K as G z v → Q v H) → r x y H Q) : OpD K r f :=
  fun ws G H as x y d e z Q W rx ry ef k => h ws G H as x y d e z Q W rx ry ef fun v rv => k v G H as Rch.refl W rv
/-- two ints -/
def fI (c : Int → Int → Bool) (g : Int → Int → D) : List Ce → D → D → Option D := fun _ x y => match x, y with
  | .int i, .int j => if c i j = true then some (g i j) else none
  | _, _ => none
theorem opd_I {C : Int → Int → Prop} {c : Int → Int → Bool} {g : Int → Int → V} {g' : Int → Int → D} (hc : ∀ i j, c i j = true → C i j) (hg : ∀ as G i j, Rep K as G (g' i j) (g i j)) : OpD K (rI C g) (fI c g') := OpD.pure fun ws G H as x y d e z Q W rx ry ef k => by
  unfold fI at ef
  split at ef
  · rename_i i j
    split at ef
    · rename_i h
      cases ef
      simp only [Rep] at rx ry
      exact ⟨i, j, rx, ry, hc i j h, k _ (hg as G i j)⟩
    · cases ef
  · cases ef
theorem opd_I0 {g : Int → Int → V} {g' : Int → Int → D} (hg : ∀ as G i j, Rep K as G (g' i j) (g i j)) : OpD K (rI0 g) (fI (fun _ _ => true) g') := OpD.pure fun ws G H as x y d e z Q W rx ry ef k => by
  unfold fI at ef
  split at ef
  · rename_i i j
    split at ef
    · cases ef
      simp only [Rep] at rx ry
      exact ⟨i, j, rx, ry, k _ (hg as G i j)⟩
    · cases ef
  · cases ef
def fAdd := fI (fun _ _ => true) fun i j => .int (i + j)
def fSub := fI (fun _ _ => true) fun i j => .int (i - j)
def cMul (i j : Int) : Bool := (decide (-(2 ^ 64) < i) && decide (i < 2 ^ 64)) || (decide (-(2 ^ 64) < j) && decide (j < 2 ^ 64))
def fMul := fI cMul fun i j => .int (i * j)
def fFdiv := fI (fun _ j => decide (0 < j) && decide (j < 1073741824)) fun i j => .int (i / j)
def fMod := fI (fun _ j => decide (0 < j)) fun i j => .int (i % j)
def fPow := fI (fun i j => decide (0 ≤ j) && decide (j ≤ 1000000) && decide (i.natAbs < 2 ^ 64)) fun i j => .int (i ^ j.toNat)
def fLt := fI (fun _ _ => true) fun i j => .bl (decide (i < j))
def fLe := fI (fun _ _ => true) fun i j => .bl (decide (i ≤ j))
def fGt := fI (fun _ _ => true) fun i j => .bl (decide (j < i))
def fGe := fI (fun _ _ => true) fun i j => .bl (decide (j ≤ i))
theorem od_add : OpD K (rI0 fun i j => .int (i + j)) fAdd := opd_I0 fun _ _ _ _ => by simp [Rep]
theorem od_sub : OpD K (rI0 fun i j => .int (i - j)) fSub := opd_I0 fun _ _ _ _ => by simp [Rep]
theorem od_mul : OpD K (rI CMul fun i j => .int (i * j)) fMul := opd_I (fun i j h => by simp [cMul] at h; exact h) fun _ _ _ _ => by simp [Rep]
theorem od_fdiv : OpD K (rI CDiv fun i j => .int (i / j)) fFdiv := opd_I (fun i j h => by simp at h; exact h) fun _ _ _ _ => by simp [Rep]
theorem od_mod : OpD K (rI (fun _ j => 0 < j) fun i j => .int (i % j)) fMod := opd_I (fun i j h => by simp at h; exact h) fun _ _ _ _ => by simp [Rep]
theorem od_pow : OpD K (rI CPow fun i j => .int (i ^ j.toNat)) fPow := opd_I (fun i j h => by simp [and_assoc] at h; exact h) fun _ _ _ _ => by simp [Rep]
theorem od_lt : OpD K (rI0 fun i j => .bl (decide (i < j))) fLt := opd_I0 fun _ _ _ _ => by simp [Rep]
theorem od_le : OpD K (rI0 fun i j => .bl (decide (i ≤ j))) fLe := opd_I0 fun _ _ _ _ => by simp [Rep]
theorem od_gt : OpD K (rI0 fun i j => .bl (decide (j < i))) fGt := opd_I0 fun _ _ _ _ => by simp [Rep]
theorem od_ge : OpD K (rI0 fun i j => .bl (decide (j ≤ i))) fGe := opd_I0 fun _ _ _ _ => by simp [Rep]
/-- == and != of scalars -/
def scalEq : D → D → Option Bool
  | .int i, .int j => some (decide (i = j))
  | .str a, .str b => some (decide (a = b))
  | .bl a, .bl b => some (decide (a = b))
  | .non, .non => some true
  | .non, .int _ => some false
  | .int _, .non => some false
  | .non, .str _ => some false
  | .str _, .non => some false
  | .non, .bl _ => some false
  | .bl _, .non => some false
  | .int _, .str _ => some false
  | .str _, .int _ => some false
  | _, _ => none
def fEqS : List Ce → D → D → Option D := fun _ x y => (scalEq x y).map .bl
def fNeS : List Ce → D → D → Option D := fun _ x y => (scalEq x y).map fun b => .bl (!b)
theorem scalEq_ok {as : List Addr} {G : Hp} {d e : D} {x y : V} {b : Bool} (h : scalEq d e = some b) (rx : Rep K as G d x) (ry : Rep K as G e y) : scal x y = true ∧ decide (x = y) = b := by
  unfold scalEq at h
  split at h <;> first | (cases h; done) | (simp only [Rep] at rx ry; subst rx ry; cases h; exact ⟨rfl, by simp⟩)
theorem od_eqS : OpD K rEq fEqS := OpD.pure fun ws G H as x y d e z Q W rx ry ef k => by
  unfold fEqS at ef
  obtain ⟨b, h, e1⟩ := Option.map_eq_some_iff.mp ef
  obtain ⟨h1, h2⟩ := scalEq_ok h rx ry
  subst e1
  exact ⟨h1, by rw [h2]; exact k _ (by simp [Rep])⟩
theorem od_neS : OpD K rNe fNeS := OpD.pure fun ws G H as x y d e z Q W rx ry ef k => by
  unfold fNeS at ef
  obtain ⟨b, h, e1⟩ := Option.map_eq_some_iff.mp ef
  obtain ⟨h1, h2⟩ := scalEq_ok h rx ry
  subst e1
  exact ⟨h1, by rw [h2]; exact k _ (by simp [Rep])⟩
/-- texts -/
def fAddS : List Ce → D → D → Option D := fun _ x y => match x, y with
  | .str a, .str b => if a.length + b.length ≤ 100000 then some (.str (a ++ b)) else none
  | _, _ => none
theorem od_addS : OpD K (fun x y H Q => ∃ i j, x = .str i ∧ y = .str j ∧ i.length + j.length ≤ sizeLine ∧ Q (.str (i ++ j)) H) fAddS := OpD.pure fun ws G H as x y d e z Q W rx ry ef k => by
  unfold fAddS at ef
  split at ef
  · split at ef
    · rename_i h
      cases ef
      simp only [Rep] at rx ry
      exact ⟨_, _, rx, ry, small5 h, k _ (by simp [Rep])⟩
    · cases ef
  · cases ef
/-! data: nested lists and tuples of None, bools, ints, texts -/
mutual
def toPy0 : D → Option PyData
  | .non => some .none
  | .bl b => some (.bool b)
  | .int i => some (.int i)
  | .str s => some (.str s)
  | .tup l => (toPys0 l).map .tuple
  | .lst l => (toPys0 l).map .list
  | .ins _ _ _ => none
  | .cell _ => none
  | .cls _ => none
  | .fz _ => none
  | .exc _ _ _ => none
  | .dct _ _ => none
  | .dcT _ _ => none
def toPys0 : List D → Option (List PyData)
  | [] => some []
  | d :: ds => (toPy0 d).bind fun p => (toPys0 ds).map (p :: ·)
end
def toPy (ws : List Ce) : D → Option PyData
  | .cell n => (match ws[n]? with
    | some (.lst l) => (toPys0 l).map .list
    | _ => none)
  | d => toPy0 d
mutual
theorem toPy0_ok {as : List Addr} {G H : Hp} (hG : Same G H) : ∀ {d : D} {v : V} {p : PyData}, toPy0 d = some p → Rep K as G d v → Dp K H v p
  | .non, v, p, h, r => by simp [toPy0] at h; simp [Rep] at r; subst h r; exact .non
  | .bl b, v, p, h, r => by simp [toPy0] at h; simp [Rep] at r; subst h r; exact .bl b
  | .int b, v, p, h, r => by simp [toPy0] at h; simp [Rep] at r; subst h r; exact .int b
  | .str b, v, p, h, r => by simp [toPy0] at h; simp [Rep] at r; subst h r; exact .str b
  | .tup l, v, p, h, r => by
    simp only [toPy0, Option.map_eq_some_iff] at h
    obtain ⟨ps, h1, h2⟩ := h
    simp only [Rep] at r
    obtain ⟨a, vs, e1, e2, e3⟩ := r
    subst h2 e1
    exact .tup (.inl (.inl (hG _ _ e2))) (toPys0_ok hG h1 e3)
  | .lst l, v, p, h, r => by
    simp only [toPy0, Option.map_eq_some_iff] at h
    obtain ⟨ps, h1, h2⟩ := h
    simp only [Rep] at r
    obtain ⟨a, vs, e1, e2, e3⟩ := r
    subst h2 e1
    exact .lst (.inl (.inl (hG _ _ e2))) (toPys0_ok hG h1 e3)
  | .ins _ _ _, v, p, h, r => by simp [toPy0] at h
  | .cell _, v, p, h, r => by simp [toPy0] at h
  | .cls _, v, p, h, r => by simp [toPy0] at h
  | .fz _, v, p, h, r => by simp [toPy0] at h
  | .exc _ _ _, v, p, h, r => by simp [toPy0] at h
  | .dct _ _, v, p, h, r => by simp [toPy0] at h
  | .dcT _ _, v, p, h, r => by simp [toPy0] at h
theorem toPys0_ok {as : List Addr} {G H : Hp} (hG : Same G H) : ∀ {ds : List D} {vs : List V} {ps : List PyData}, toPys0 ds = some ps → Reps K as G ds vs → DpAll K H vs ps
  | [], vs, ps, h, r => by
    simp [toPys0] at h
    simp [Reps] at r
    subst h r
    exact .nil
  | d :: ds, vs, ps, h, r => by
    simp only [toPys0, Option.bind_eq_some_iff, Option.map_eq_some_iff] at h
    obtain ⟨p, h1, qs, h2, h3⟩ := h
    simp only [Reps] at r
    obtain ⟨v, vs', e1, e2, e3⟩ := r
    subst h3 e1
    exact .cons (toPy0_ok hG h1 e2) (toPys0_ok hG h2 e3)
end
theorem toPy_ok {as : List Addr} {G H : Hp} {ws : List Ce} (W : Wd K G H as ws) {d : D} {v : V} {p : PyData} (h : toPy ws d = some p) (r : Rep K as G d v) : Dp K H v p := by
  cases d with
  | cell n =>
    have h1 : (match ws[n]? with
      | some (.lst l) => (toPys0 l).map .list
      | _ => none) = some p := h
    cases q : ws[n]? with
    | none => rw [q] at h1; cases h1
    | some c =>
      rw [q] at h1
      cases c with
      | lst l =>
        obtain ⟨ps, h2, h3⟩ := Option.map_eq_some_iff.mp h1
        obtain ⟨a, o, e1, _, e3, e4⟩ := W.cellAt q (fun z => by cases z) r
        obtain ⟨vs, e5, e6⟩ := e4
        subst e5 e1 h3
        exact .lst (.inl (.inl e3)) (toPys0_ok W.le h2 e6)
      | _ => cases h1
  | _ => exact toPy0_ok W.le h r
def fEqD : List Ce → D → D → Option D := fun ws x y => (toPy ws x).bind fun p => (toPy ws y).bind fun q => if (SeqAt.shaped p && SeqAt.shaped q) = true then some (.bl (PyData.eqv p q)) else none
def fNeD : List Ce → D → D → Option D := fun ws x y => (toPy ws x).bind fun p => (toPy ws y).bind fun q => if (SeqAt.shaped p && SeqAt.shaped q) = true then some (.bl (!PyData.eqv p q)) else none
theorem od_eqD : OpD K (rEqD K) fEqD := OpD.pure fun ws G H as x y d e z Q W rx ry ef k => by
  simp only [fEqD, Option.bind_eq_some_iff] at ef
  obtain ⟨p, h1, q, h2, h3⟩ := ef
  split at h3
  · rename_i h4
    cases h3
    obtain ⟨h5, h6⟩ := Bool.and_eq_true_iff.mp h4
    exact ⟨p, q, toPy_ok W h1 rx, toPy_ok W h2 ry, h5, h6, k _ (by simp [Rep])⟩
  · cases h3
theorem od_neD : OpD K (rNeD K) fNeD := OpD.pure fun ws G H as x y d e z Q W rx ry ef k => by
  simp only [fNeD, Option.bind_eq_some_iff] at ef
  obtain ⟨p, h1, q, h2, h3⟩ := ef
  split at h3
  · rename_i h4
    cases h3
    obtain ⟨h5, h6⟩ := Bool.and_eq_true_iff.mp h4
    exact ⟨p, q, toPy_ok W h1 rx, toPy_ok W h2 ry, h5, h6, k _ (by simp [Rep])⟩
  · cases h3
/-- x in a list (data) -/
def fInD : List Ce → D → D → Option D := fun ws x y => (toPy ws x).bind fun p => (toPy ws y).bind fun q => match q with
  | .list ds => if (SeqAt.shaped p && SeqAt.shaped (.list ds)) = true then some (.bl (ds.any fun z => PyData.eqv z p)) else none
  | _ => none
def fNotInD : List Ce → D → D → Option D := fun ws x y => (toPy ws x).bind fun p => (toPy ws y).bind fun q => match q with
  | .list ds => if (SeqAt.shaped p && SeqAt.shaped (.list ds)) = true then some (.bl (!ds.any fun z => PyData.eqv z p)) else none
  | _ => none
theorem od_inD : OpD K (rInD K) fInD := OpD.pure fun ws G H as x y d e z Q W rx ry ef k => by
  simp only [fInD, Option.bind_eq_some_iff] at ef
  obtain ⟨p, h1, q, h2, h3⟩ := ef
  split at h3
  · split at h3
    · rename_i h4
      cases h3
      obtain ⟨h5, h6⟩ := Bool.and_eq_true_iff.mp h4
      exact ⟨p, _, toPy_ok W h1 rx, toPy_ok W h2 ry, h5, h6, k _ (by simp [Rep])⟩
    · cases h3
  · cases h3
theorem od_notInD : OpD K (rNotInD K) fNotInD := OpD.pure fun ws G H as x y d e z Q W rx ry ef k => by
  simp only [fNotInD, Option.bind_eq_some_iff] at ef
  obtain ⟨p, h1, q, h2, h3⟩ := ef
  split at h3
  · split at h3
    · rename_i h4
      cases h3
      obtain ⟨h5, h6⟩ := Bool.and_eq_true_iff.mp h4
      exact ⟨p, _, toPy_ok W h1 rx, toPy_ok W h2 ry, h5, h6, k _ (by simp [Rep])⟩
    · cases h3
  · cases h3
/-- x in a list or tuple of flat things -/
def flatOf : D → Option V
  | .non => some .non
  | .bl b => some (.bl b)
  | .int i => some (.int i)
  | .str s => some (.str s)
  | _ => none
theorem flatOf_ok {as : List Addr} {G : Hp} {d : D} {v u : V} (h : flatOf d = some u) (r : Rep K as G d v) : v = u ∧ flatV v = true := by
  cases d <;> simp [flatOf] at h <;> simp [Rep] at r <;> (subst h r; exact ⟨rfl, rfl⟩)
def flatsOf : List D → Option (List V)
  | [] => some []
  | d :: ds => (flatOf d).bind fun v => (flatsOf ds).map (v :: ·)
theorem flatsOf_ok {as : List Addr} {G : Hp} : ∀ {ds : List D} {vs us : List V}, flatsOf ds = some us → Reps K as G ds vs → vs = us ∧ vs.all flatV = true
  | [], vs, us, h, r => by
    simp [flatsOf] at h
    simp [Reps] at r
    subst h r
    exact ⟨rfl, rfl⟩
  | d :: ds, vs, us, h, r => by
    simp only [flatsOf, Option.bind_eq_some_iff, Option.map_eq_some_iff] at h
    obtain ⟨u, h1, us', h2, h3⟩ := h
    simp only [Reps] at r
    obtain ⟨v, vs', e1, e2, e3⟩ := r
    obtain ⟨q1, q2⟩ := flatOf_ok h1 e2
    obtain ⟨q3, q4⟩ := flatsOf_ok h2 e3
    subst h3 e1 q1 q3
    exact ⟨rfl, by rw [List.all_cons, q2, q4] <;> rfl⟩
def fInF (neg : Bool) : List Ce → D → D → Option D := fun ws x y => (flatOf x).bind fun u => (seqOf ws y).bind fun l => (flatsOf l).bind fun us => some (.bl (if neg then !inV u us else inV u us))
theorem od_inF {neg : Bool} : OpD K (rIn K neg) (fInF neg) := OpD.pure fun ws G H as x y d e z Q W rx ry ef k => by
  simp only [fInF, Option.bind_eq_some_iff] at ef
  obtain ⟨u, h1, l, h2, us, h3, h4⟩ := ef
  obtain ⟨a, vs, e1, e2, e3⟩ := seq_rep W h2 ry
  obtain ⟨q1, q2⟩ := flatOf_ok h1 rx
  obtain ⟨q3, q4⟩ := flatsOf_ok h3 e3
  cases h4
  subst q1 q3
  exact ⟨a, vs, e1, e2, q2, q4, k _ (by simp [Rep])⟩
/-- one sign in a text -/
def fInSign : List Ce → D → D → Option D := fun _ x y => match x, y with
  | .str c, .str z => (match c.cps.toList with
    | [n] => some (.bl (decide (n ∈ z.cps.toList)))
    | _ => none)
  | _, _ => none
theorem str_one {c : Str} {n : Nat} (h : c.cps.toList = [n]) : c = ⟨#[n]⟩ := by
  obtain ⟨a⟩ := c
  have : a = #[n] := by
    apply Array.toList_inj.mp
    exact h
  rw [this]
theorem od_inSign : OpD K (fun x y H Q => ∃ (c : Nat) (z : Str), x = .str ⟨#[c]⟩ ∧ y = .str z ∧ Q (.bl (decide (c ∈ z.cps.toList))) H) fInSign := OpD.pure fun ws G H as x y d e z Q W rx ry ef k => by
  unfold fInSign at ef
  split at ef
  · split at ef
    · rename_i h
      cases ef
      simp only [Rep] at rx ry
      rw [str_one h] at rx
      exact ⟨_, _, rx, ry, k _ (by simp [Rep])⟩
    · cases ef
  · cases ef
/-- xs + ys: lists -/
def fCat : List Ce → D → D → Option D := fun ws x y => (lstOf ws x).bind fun l => (lstOf ws y).bind fun m => if l.length + m.length ≤ 100000 then some (.lst (l ++ m)) else none
theorem od_cat : OpD K rCat fCat := fun ws G H as x y d e z Q W rx ry ef k => by
  simp only [fCat, Option.bind_eq_some_iff] at ef
  obtain ⟨l, h1, m, h2, h3⟩ := ef
  split at h3
  · rename_i h4
    cases h3
    obtain ⟨a, vs, e1, e2, e3⟩ := lst_rep W h1 rx
    obtain ⟨b, us, f1, f2, f3⟩ := lst_rep W h2 ry
    refine ⟨a, b, vs, us, e1, f1, e2, f2, small5 (by rw [← e3.len, ← f3.len]; exact h4), fun p hp => k _ _ _ as (Rch.new W.le hp) (W.new hp) ?_⟩
    simp only [Rep]
    exact ⟨p, _, rfl, upd_same, (e3.app f3).up (List.prefix_refl _) (Rch.new (as := as) W.le hp).up⟩
  · cases h3
/-- xs[i] -/
def fIx : List Ce → D → D → Option D := fun ws x y => match y with
  | .int i => (match x with
    | .str s => if s.length ≤ 100000 then (atI s.cps.toList i).map fun c => .str ⟨#[c]⟩ else none
    | _ => (seqOf ws x).bind fun l => atI l i)
  | _ => none
theorem Reps.atI {as : List Addr} {G : Hp} {l : List D} {vs : List V} {i : Int} {d : D} (r : Reps K as G l vs) (e : L2.atI l i = some d) : ∃ v, L2.atI vs i = some v ∧ Rep K as G d v := by
  unfold L2.atI at e ⊢
  rw [r.len] at e
  cases q : ixN vs.length i with
  | none => rw [q] at e; cases e
  | some j =>
    rw [q] at e
    exact r.get e
theorem od_ix : OpD K (rIx K) fIx := OpD.pure fun ws G H as x y d e z Q W rx ry ef k => by
  unfold fIx at ef
  split at ef
  · rename_i i
    split at ef
    · rename_i s
      split at ef
      · rename_i h
        obtain ⟨c, h1, h2⟩ := Option.map_eq_some_iff.mp ef
        subst h2
        simp only [Rep] at rx ry
        exact .inr (.inr ⟨s, i, c, rx, ry, small5 h, h1, k _ (by simp [Rep])⟩)
      · cases ef
    · simp only [Option.bind_eq_some_iff] at ef
      obtain ⟨l, h1, h2⟩ := ef
      simp only [Rep] at ry
      obtain ⟨a, vs, e1, e2, e3⟩ := seq_rep W h1 rx
      obtain ⟨v, e4, e5⟩ := e3.atI h2
      rcases e2 with e2 | e2
      · exact .inl ⟨a, vs, i, v, e1, ry, e2, e4, k _ e5⟩
      · exact .inr (.inl ⟨a, vs, i, v, e1, ry, e2, e4, k _ e5⟩)
  · cases ef
end
section
variable {K : PySem.W.Frag} {X : Cx} {E : XK} {a b c e : Expr} {ta tb tc te : TE} {sa sb sc se : Se} {pos : Pos} {f g : List Ce → D → D → Option D} {r r' : R2}
theorem ae_bin {op : Operator} (ho : OpR X (binaryOp op) r) (h : OpD K r f) (ha : AE K X E a ta sa) (hb : AE K X E b tb sb) : AE K X E (.BinOp a op b pos) (tOp r ta tb) (sOp f sa sb) := ⟨ha.hK, pe_op ho ha.pe hb.pe, evOp h ha.ev hb.ev⟩
theorem ae_cmp {op : CmpOp} (ho : OpR X (compareOp op) r) (h : OpD K r f) (ha : AE K X E a ta sa) (hb : AE K X E b tb sb) (hm : behindInMarks op b = false) : AE K X E (.Compare a [op] [b] pos) (tOp r ta tb) (sOp f sa sb) :=
  ⟨ha.hK, pe_cmpR ho ha.pe hb.pe hm, evOp h ha.ev hb.ev⟩
theorem ae_ix (ha : AE K X E a ta sa) (hb : AE K X E b tb sb) (hs : PlainIx b) : AE K X E (.Subscript a b pos) (tOp (rIx K) ta tb) (sOp fIx sa sb) := by
  have e := ha.hK
  subst e
  exact ⟨rfl, pe_ix ix_seq ha.pe hb.pe hs, evOp od_ix ha.ev hb.ev⟩
/-! ### tests -/
def sB (a : Se) : Sb := fun ρ ws => (a ρ ws).bind fun x ws1 => match x with
  | .bl b => .ok b ws1
  | _ => .bad
theorem evB {K : PySem.W.Frag} {te : TE} (h : EvE K E te se) : EvT K E (tB te) (sB se) := fun ρ ws G H as σ Q W S P => h ρ ws G H as σ _ W S (Post.bind P fun x ws1 v G1 H1 as1 r1 W1 rx P1 => by
  cases x with
  | bl b =>
    simp only [Rep] at rx
    exact ⟨b, rx, Post.done P1 W1 rfl⟩
  | _ => exact False.elim P1)
theorem at_val (h : AE K X E e te se) (he : ∀ whole, isTrue e X.env whole = (do let v ← whole; standAt e.pos; holding [v] (truthy v)) := by intro _; rfl) : AT K X E e (tB te) (sB se) := ⟨h.hK, pt_val h.pe he, evB h.ev⟩
theorem at_cmp {op : CmpOp} (ho : OpR X (compareOp op) r) (h : OpD K r f) (ha : AE K X E a ta sa) (hb : AE K X E b tb sb) (hm : behindInMarks op b = false) : AT K X E (.Compare a [op] [b] pos) (tB (tOp r ta tb)) (sB (sOp f sa sb)) :=
  ⟨ha.hK, pt_cmpR ho ha.pe hb.pe hm, evB (evOp h ha.ev hb.ev)⟩
def sNot (a : Sb) : Sb := fun ρ ws => (a ρ ws).bind fun b ws1 => .ok (!b) ws1
variable {t u v : TT} {op : CmpOp} {rest : List Expr} {ba bb : Sb}
theorem at_not (h : AT K X E a t ba) : AT K X E (.UnaryOp .Not a pos) (tNot t) (sNot ba) := by
  refine ⟨h.hK, pt_not h.pe, fun ρ ws G H as σ Q W S P => h.ev ρ ws G H as σ _ W S (Post.bind P fun x ws1 b G1 H1 as1 r1 W1 rx P1 => ?_)⟩
  cases rx
  exact Post.done P1 W1 rfl
def sAndT (a b : Sb) : Sb := fun ρ ws => (a ρ ws).bind fun x ws1 => if x = true then b ρ ws1 else .ok false ws1
def sOrT (a b : Sb) : Sb := fun ρ ws => (a ρ ws).bind fun x ws1 => if x = true then .ok true ws1 else b ρ ws1
theorem aw_and (ha : AT K X E a t ba) (hb : AW K X E (.BoolOp .And (b :: rest) pos) u bb) : AW K X E (.BoolOp .And (a :: b :: rest) pos) (tAnd t u) (sAndT ba bb) := by
  refine ⟨ha.hK, pw_and ha.pe hb.pe, fun ρ ws G H as σ Q W S P => ha.ev ρ ws G H as σ _ W S (Post.bind P fun x ws1 b G1 H1 as1 r1 W1 rx P1 => ?_)⟩
  cases rx
  cases x with
  | true => exact hb.ev ρ ws1 G1 H1 as1 σ _ W1 (S.up r1.pre r1.up) P1
  | false => exact Post.done P1 W1 rfl
theorem aw_or (ha : AT K X E a t ba) (hb : AW K X E (.BoolOp .Or (b :: rest) pos) u bb) : AW K X E (.BoolOp .Or (a :: b :: rest) pos) (tOr t u) (sOrT ba bb) := by
  refine ⟨ha.hK, pw_or ha.pe hb.pe, fun ρ ws G H as σ Q W S P => ha.ev ρ ws G H as σ _ W S (Post.bind P fun x ws1 b G1 H1 as1 r1 W1 rx P1 => ?_)⟩
  cases rx
  cases x with
  | true => exact Post.done P1 W1 rfl
  | false => exact hb.ev ρ ws1 G1 H1 as1 σ _ W1 (S.up r1.pre r1.up) P1
theorem aw_and1 (ha : AT K X E a t ba) : AW K X E (.BoolOp .And [a] pos) t ba := ⟨ha.hK, pw_and1 ha.pe, ha.ev⟩
theorem aw_or1 (ha : AT K X E a t ba) : AW K X E (.BoolOp .Or [a] pos) t ba := ⟨ha.hK, pw_or1 ha.pe, ha.ev⟩
theorem AW.at (h : AW K X E a t ba) : AT K X E a t ba := ⟨h.hK, h.pe.pt, h.ev⟩
/-! ### and, or, not, if .. else as values -/
def sAnd (a b : Se) : Se := fun ρ ws => (a ρ ws).bind fun x ws1 => match x with
  | .bl true => b ρ ws1
  | .bl false => .ok (.bl false) ws1
  | _ => .bad
def sOr (a b : Se) : Se := fun ρ ws => (a ρ ws).bind fun x ws1 => match x with
  | .bl true => .ok (.bl true) ws1
  | .bl false => b ρ ws1
  | _ => .bad
def sNotV (a : Se) : Se := fun ρ ws => (a ρ ws).bind fun x ws1 => match x with
  | .bl b => .ok (.bl (!b)) ws1
  | _ => .bad
theorem ae_and (ha : AE K X E a ta sa) (hb : AE K X E (.BoolOp .And (b :: rest) pos) tb sb) : AE K X E (.BoolOp .And (a :: b :: rest) pos) (tAndV ta tb) (sAnd sa sb) := by
  refine ⟨ha.hK, pe_and ha.pe hb.pe, fun ρ ws G H as σ Q W S P => ha.ev ρ ws G H as σ _ W S (Post.bind P fun x ws1 b G1 H1 as1 r1 W1 rx P1 => ?_)⟩
  cases x with
  | bl x =>
    simp only [Rep] at rx
    refine ⟨x, rx, ?_⟩
    cases x with
    | true => exact hb.ev ρ ws1 G1 H1 as1 σ _ W1 (S.up r1.pre r1.up) P1
    | false => exact Post.done P1 W1 (by simp [Rep])
  | _ => exact False.elim P1
theorem ae_or (ha : AE K X E a ta sa) (hb : AE K X E (.BoolOp .Or (b :: rest) pos) tb sb) : AE K X E (.BoolOp .Or (a :: b :: rest) pos) (tOrV ta tb) (sOr sa sb) := by
  refine ⟨ha.hK, pe_or ha.pe hb.pe, fun ρ ws G H as σ Q W S P => ha.ev ρ ws G H as σ _ W S (Post.bind P fun x ws1 b G1 H1 as1 r1 W1 rx P1 => ?_)⟩
  cases x with
  | bl x =>
    simp only [Rep] at rx
    refine ⟨x, rx, ?_⟩
    cases x with
    | true => exact Post.done P1 W1 (by simp [Rep])
    | false => exact hb.ev ρ ws1 G1 H1 as1 σ _ W1 (S.up r1.pre r1.up) P1
  | _ => exact False.elim P1
theorem ae_one {op : PySem.BoolOp} (ha : AE K X E a ta sa) : AE K X E (.BoolOp op [a] pos) ta sa := ⟨ha.hK, pe_one ha.pe, ha.ev⟩
theorem ae_not (ha : AE K X E a ta sa) : AE K X E (.UnaryOp .Not a pos) (tNotV ta) (sNotV sa) := by
  refine ⟨ha.hK, pe_not ha.pe, fun ρ ws G H as σ Q W S P => ha.ev ρ ws G H as σ _ W S (Post.bind P fun x ws1 b G1 H1 as1 r1 W1 rx P1 => ?_)⟩
  cases x with
  | bl x =>
    simp only [Rep] at rx
    exact ⟨x, rx, Post.done P1 W1 (by simp [Rep])⟩
  | _ => exact False.elim P1
def sIf (t : Sb) (a b : Se) : Se := fun ρ ws => (t ρ ws).bind fun x ws1 => if x = true then a ρ ws1 else b ρ ws1
theorem ae_if (hc : AT K X E c t ba) (ha : AE K X E a ta sa) (hb : AE K X E b tb sb) : AE K X E (.IfExp c a b pos) (tIf t ta tb) (sIf ba sa sb) := by
  refine ⟨ha.hK, pe_ifExp hc.pe ha.pe hb.pe, fun ρ ws G H as σ Q W S P => hc.ev ρ ws G H as σ _ W S (Post.bind P fun x ws1 b G1 H1 as1 r1 W1 rx P1 => ?_)⟩
  cases rx
  cases x with
  | true => exact ha.ev ρ ws1 G1 H1 as1 σ _ W1 (S.up r1.pre r1.up) P1
  | false => exact hb.ev ρ ws1 G1 H1 as1 σ _ W1 (S.up r1.pre r1.up) P1
/-- a < b < c -/
def sChain (f g : List Ce → D → D → Option D) (a b c : Se) : Se := fun ρ ws => (a ρ ws).bind fun x ws1 => (b ρ ws1).bind fun y ws2 => (R.ofO (f ws2 x y) ws2).bind fun z ws3 => match z with
  | .bl true => (c ρ ws3).bind fun w ws4 => R.ofO (g ws4 y w) ws4
  | .bl false => .ok (.bl false) ws3
  | _ => .bad
theorem ae_chain {op op' : CmpOp} (ho : OpR X (compareOp op) r) (h : OpD K r f) (ho' : OpR X (compareOp op') r') (h' : OpD K r' g) (ha : AE K X E a ta sa) (hb : AE K X E b tb sb) (hc : AE K X E c tc sc)
    (hm : lastMarks [op, op'] [b, c] = false := by with_unfolding_all rfl) : AE K X E (.Compare a [op, op'] [b, c] pos) (tChain r r' ta tb tc) (sChain f g sa sb sc) := by
  refine ⟨ha.hK, pe_chain ho ho' ha.pe hb.pe hc.pe hm, fun ρ ws G H as σ Q W S P => ha.ev ρ ws G H as σ _ W S (Post.bind P fun x ws1 bx G1 H1 as1 r1 W1 rx P1 => ?_)⟩
  refine hb.ev ρ ws1 G1 H1 as1 σ _ W1 (S.up r1.pre r1.up) (Post.bind P1 fun y ws2 vy G2 H2 as2 r2 W2 ry P2 => ?_)
  cases ef : f ws2 x y with
  | none =>
    rw [ef] at P2
    exact False.elim P2
  | some z =>
    rw [ef, R.ofO_some, R.bind_ok] at P2
    refine h ws2 G2 H2 as2 bx vy x y z _ W2 (rx.up r2.pre r2.up) ry ef fun vz G3 H3 as3 r3 W3 rz => ?_
    have P3 := Post.from P2 r3
    have S3 := (S.up r1.pre r1.up).up (r2.trans r3).pre (r2.trans r3).up
    cases z with
    | bl k =>
      simp only [Rep] at rz
      refine ⟨k, rz, ?_⟩
      cases k with
      | true =>
        refine hc.ev ρ ws2 G3 H3 as3 σ _ W3 S3 (Post.bind P3 fun w ws4 vw G4 H4 as4 r4 W4 rw' P4 => ?_)
        obtain ⟨z', e', P5⟩ := Post.ofO P4
        exact h' ws4 G4 H4 as4 vy vw y w z' Q W4 (ry.up (r3.trans r4).pre (r3.trans r4).up) rw' e' fun v' G' H' as' q w rep => P5 v' G' H' as' q w rep
      | false => exact Post.done P3 W3 (by simp [Rep])
    | _ => exact False.elim P3
end
/-! ### argument lists, displays -/
def sNil : Sa := fun _ ws => .ok [] ws
def sCons (a : Se) (r : Sa) : Sa := fun ρ ws => (a ρ ws).bind fun x ws1 => (r ρ ws1).bind fun xs ws2 => .ok (x :: xs) ws2
def sStar (a : Se) (r : Sa) : Sa := fun ρ ws => (a ρ ws).bind fun x ws1 => match seqOf ws1 x with
  | some l => (r ρ ws1).bind fun xs ws2 => .ok (l ++ xs) ws2
  | none => .bad
section
variable {K : PySem.W.Frag} {X : Cx} {E : XK} {e : Expr} {es : List Expr} {te : TE} {ta : TA} {se : Se} {sa : Sa} {pos p : Pos}
theorem evNil : EvA K E tNil sNil := fun ρ ws G H as σ Q W S P => Post.done P W Reps.nil
theorem aa_nil (hK : X.K = K := by rfl) : AA K X E [] tNil sNil := ⟨hK, pa_nil, evNil⟩
theorem aa_cons (he : AE K X E e te se) (hr : AA K X E es ta sa) (hs : starEach (e :: es) X.env = (false, eval e X.env) :: starEach es X.env := by rfl) : AA K X E (e :: es) (tCons te ta) (sCons se sa) := by
  refine ⟨he.hK, pa_cons he.pe hr.pe hs, fun ρ ws G H as σ Q W S P => he.ev ρ ws G H as σ _ W S (Post.bind P fun x ws1 bx G1 H1 as1 r1 W1 rx P1 => ?_)⟩
  refine hr.ev ρ ws1 G1 H1 as1 σ _ W1 (S.up r1.pre r1.up) (Post.bind P1 fun xs ws2 vs G2 H2 as2 r2 W2 rs P2 => ?_)
  exact Post.done P2 W2 (Reps.cons (rx.up r2.pre r2.up) rs)
theorem aa_star (he : AE K X E e te se) (hr : AA K X E es ta sa) (hs : starEach (.Starred e p :: es) X.env = (true, eval e X.env) :: starEach es X.env := by rfl) : AA K X E (.Starred e p :: es) (StX.tStar K te ta) (sStar se sa) := by
  have e0 := he.hK
  subst e0
  refine ⟨rfl, StX.pa_star he.pe hr.pe hs, fun ρ ws G H as σ Q W S P => he.ev ρ ws G H as σ _ W S (Post.bind P fun x ws1 bx G1 H1 as1 r1 W1 rx P1 => ?_)⟩
  cases q : seqOf ws1 x with
  | none =>
    rw [q] at P1
    exact False.elim P1
  | some l =>
    rw [q] at P1
    obtain ⟨a, vs, e1, e2, e3⟩ := seq_rep W1 q rx
    refine ⟨a, vs, e1, e2.symm, ?_⟩
    refine hr.ev ρ ws1 G1 H1 as1 σ _ W1 (S.up r1.pre r1.up) (Post.bind P1 fun xs ws2 us G2 H2 as2 r2 W2 rs P2 => ?_)
    exact Post.done P2 W2 ((e3.up r2.pre r2.up).app rs)
def sTup (a : Sa) : Se := fun ρ ws => (a ρ ws).bind fun xs ws1 => if xs.length ≤ 100000 then .ok (.tup xs) ws1 else .bad
/-- a list that is never written -/
def sLst (a : Sa) : Se := fun ρ ws => (a ρ ws).bind fun xs ws1 => if xs.length ≤ 100000 then .ok (.lst xs) ws1 else .bad
/-- a list that will be written -/
def sLstM (a : Sa) : Se := fun ρ ws => (a ρ ws).bind fun xs ws1 => if xs.length ≤ 100000 then .ok (.cell ws1.length) (ws1 ++ [.lst xs]) else .bad
theorem ae_tup {x1} (h : AA K X E es ta sa) : AE K X E (.Tuple es x1 pos) (tTup ta) (sTup sa) := by
  refine ⟨h.hK, pe_tup h.pe, fun ρ ws G H as σ Q W S P => h.ev ρ ws G H as σ _ W S (Post.bind P fun xs ws1 vs G1 H1 as1 r1 W1 rx P1 => ?_)⟩
  split at P1
  · rename_i hl
    refine ⟨small5 (by rw [← rx.len]; exact hl), fun p hp => P1 _ _ _ _ (Rch.new W1.le hp) (W1.new hp) ?_⟩
    simp only [Rep]
    exact ⟨p, vs, rfl, upd_same, rx.up (List.prefix_refl _) (Rch.new (as := as1) W1.le hp).up⟩
  · exact False.elim P1
theorem ae_lst (h : AA K X E es ta sa) : AE K X E (.List es pos) (tLst ta) (sLst sa) := by
  refine ⟨h.hK, pe_lst h.pe, fun ρ ws G H as σ Q W S P => h.ev ρ ws G H as σ _ W S (Post.bind P fun xs ws1 vs G1 H1 as1 r1 W1 rx P1 => ?_)⟩
  split at P1
  · rename_i hl
    refine ⟨small5 (by rw [← rx.len]; exact hl), fun p hp => P1 _ _ _ _ (Rch.new W1.le hp) (W1.new hp) ?_⟩
    simp only [Rep]
    exact ⟨p, vs, rfl, upd_same, rx.up (List.prefix_refl _) (Rch.new (as := as1) W1.le hp).up⟩
  · exact False.elim P1
theorem rep_cell {K : PySem.W.Frag} {G H : Hp} {as : List Addr} {ws : List Ce} {p : Addr} (W : Wd K G H as ws) : Rep K (as ++ [p]) G (.cell ws.length) (.ref p) := by
  simp only [Rep]
  exact ⟨p, by rw [← W.len]; simp, rfl⟩
theorem ae_lstM (h : AA K X E es ta sa) : AE K X E (.List es pos) (tLst ta) (sLstM sa) := by
  refine ⟨h.hK, pe_lst h.pe, fun ρ ws G H as σ Q W S P => h.ev ρ ws G H as σ _ W S (Post.bind P fun xs ws1 vs G1 H1 as1 r1 W1 rx P1 => ?_)⟩
  split at P1
  · rename_i hl
    refine ⟨small5 (by rw [← rx.len]; exact hl), fun p hp => P1 _ _ _ _ (Rch.cell hp) (W1.cell (c := .lst xs) hp ⟨vs, rfl, rx.up (prefix_snoc _ _) (Same.refl _)⟩) (rep_cell W1)⟩
  · exact False.elim P1
end
end RL
set_option Elab.async false
set_option linter.all false
set_option maxRecDepth 100000
/-! RL3: calls, attributes, methods, new instances, slices, built-ins, texts. -/
namespace RL
open PySem PySem.Spec PyProof.Rows L2
/-- the kind of what a def promises of its exceptions: n: their context is None -/
class KdC where
  n : Bool
instance (priority := low) kdC : KdC := ⟨false⟩
def kdN : KdC := ⟨true⟩
def cxk [kd : KdC] (P : Program) (w : World) : CXT := match kd.n with
  | true => L2N.CX P w
  | false => L2.CX P w
def Tk [kd : KdC] (X : Cx) (W : WX) : Prop := match kd.n with
  | true => L2N.Takes X W
  | false => L2.Takes X W
variable [kd : KdC]
theorem tk_of {P : Program} {w : World} {K : PySem.W.Frag} {mg : Str → Option Value} {base : Heap} {N : List Str} {qual : Str} {scope : Scope} {f : Addr} {cdv : Value} {A : Around} {outer : List Env} {s : Shared} {H : Hp} {E : XK} :
    Tk (cxOf (cxk P w) P w K mg base N qual scope f cdv A outer s H E) fun cls d _ H => E cls d H := by
  obtain ⟨n⟩ := kd
  cases n
  · exact L2.takes_of rfl rfl rfl rfl
  · exact L2N.takes_of rfl rfl rfl rfl
theorem tk_px {X : Cx} {E : XK} (tk : Tk X fun cls d _ H => E cls d H) : Passes (cxk X.prog X.w) X E := by
  obtain ⟨n⟩ := kd
  cases n
  · exact L2.passes_call (show L2.Takes X _ from tk) fun _ _ _ _ z => z
  · exact L2N.passes_call (show L2N.Takes X _ from tk) fun _ _ _ _ z => z
theorem cxk_e0 {P : Program} {w : World} {outer : List Env} {H : Hp} {s s' : Shared} {e : Value} (h : cxk P w outer H s E0 e s') : False := by
  obtain ⟨n⟩ := kd
  cases n
  · obtain ⟨_, _, _, _, _, _, _, _, _, _, _, _, h⟩ := h
    exact h.elim
  · obtain ⟨_, _, _, _, _, _, _, _, _, _, _, _, h⟩ := h
    exact h.elim
theorem pass_e0 {X : Cx} : Passes (cxk X.prog X.w) X E0 := by
  obtain ⟨n⟩ := kd
  cases n
  · intro _ _ _ _ _ _ _ h
    obtain ⟨_, _, _, _, _, _, _, _, _, _, _, _, h⟩ := h
    exact h.elim
  · intro _ _ _ _ _ _ _ h
    obtain ⟨_, _, _, _, _, _, _, _, _, _, _, _, h⟩ := h
    exact h.elim
theorem pass_nox {X : Cx} : Passes (cxk X.prog X.w) X.nox E0 := pass_e0
theorem ps_raiseK {X : Cx} {W : WX} {e : Expr} {t : L2.St → Hp → XK → Prop} {pos : Pos} (hc : X.calm = true) (tk : Tk X W) (he : L2N.PMk X e t) : PS X (.Raise (some e) none pos) (fun _ σ H => t σ H fun cls d H' => W cls d σ H') := by
  obtain ⟨n⟩ := kd
  cases n
  · exact L2.ps_raise hc (show L2.Takes X _ from tk) fun pins s σ H Q I q => thn (he pins s σ H Q I q) fun _ _ ⟨a, oe, vs, sI, H', cls, d, h1, h2, h3, h4, h5, h6, h⟩ => ⟨a, oe, vs, sI, H', cls, d, h1, h2, h3, h4, h5, h6.zc, h⟩
  · exact L2N.ps_raise hc (show L2N.Takes X _ from tk) he
/-! ### instances -/
def okI (ks : List Str) (f : Str) (i : Nat) : Bool := decide (ks[i]? = some f) && decide (f ∉ ks.take i)
theorem lookup_zip : ∀ {ks : List Str} {vs : List V} {f : Str} {i : Nat} {v : V}, okI ks f i = true → vs[i]? = some v → (ks.zip vs).lookup f = some v
  | [], vs, f, i, v, h, e => by simp [okI] at h
  | k :: ks, [], f, i, v, h, e => by simp at e
  | k :: ks, u :: vs, f, 0, v, h, e => by
    simp [okI] at h
    simp at e
    subst h e
    show List.lookup k ((k, u) :: ks.zip vs) = some u
    simp [List.lookup]
  | k :: ks, u :: vs, f, i + 1, v, h, e => by
    simp [okI] at h
    simp at e
    have hk : (f == k) = false := beq_eq_false_iff_ne.mpr h.2.1
    show List.lookup f ((k, u) :: ks.zip vs) = some v
    simp only [List.lookup, hk]
    exact lookup_zip (i := i) (by simp [okI]; exact ⟨h.1, h.2.2⟩) e
theorem lookup_zip_none : ∀ {ks : List Str} {vs : List V} {f : Str}, f ∉ ks → (ks.zip vs).lookup f = none
  | [], vs, f, h => rfl
  | k :: ks, [], f, h => rfl
  | k :: ks, u :: vs, f, h => by
    have hk : (f == k) = false := beq_eq_false_iff_ne.mpr fun z => h (by rw [z]; exact List.mem_cons_self)
    show List.lookup f ((k, u) :: ks.zip vs) = none
    simp only [List.lookup, hk]
    exact lookup_zip_none fun z => h (List.mem_cons_of_mem _ z)
theorem putF_new : ∀ {ks : List Str} {vs : List V} {f : Str} {v : V}, f ∉ ks → ks.length = vs.length → putF f v (ks.zip vs) = (ks ++ [f]).zip (vs ++ [v])
  | [], [], f, v, h, e => rfl
  | [], _ :: _, f, v, h, e => by cases e
  | _ :: _, [], f, v, h, e => by cases e
  | k :: ks, u :: vs, f, v, h, e => by
    show (if k = f then _ else (k, u) :: putF f v (ks.zip vs)) = _
    rw [if_neg (fun z => h (by rw [z]; exact List.mem_cons_self)), putF_new (fun z => h (List.mem_cons_of_mem _ z)) (by simpa using e)]
    rfl
theorem putF_old : ∀ {ks : List Str} {vs : List V} {f : Str} {v : V} {i : Nat}, okI ks f i = true → ks.length = vs.length → putF f v (ks.zip vs) = ks.zip (vs.set i v)
  | [], vs, f, v, i, h, e => by simp [okI] at h
  | _ :: _, [], f, v, i, h, e => by cases e
  | k :: ks, u :: vs, f, v, 0, h, e => by
    simp [okI] at h
    show (if k = f then (k, v) :: ks.zip vs else _) = _
    rw [if_pos h]
    rfl
  | k :: ks, u :: vs, f, v, i + 1, h, e => by
    simp [okI] at h
    show (if k = f then _ else (k, u) :: putF f v (ks.zip vs)) = _
    rw [if_neg (fun z => h.2.1 z.symm), putF_old (i := i) (by simp [okI]; exact ⟨h.1, h.2.2⟩) (by simpa using e)]
    rfl
def insOf (ws : List Ce) (c : Str) : D → Option (List Str × List D)
  | .ins c' ks l => if c' = c then some (ks, l) else none
  | .cell n => (match ws[n]? with
    | some (.ins c' ks l) => if c' = c then some (ks, l) else none
    | _ => none)
  | _ => none
section
variable {K : PySem.W.Frag} {G H : Hp} {as : List Addr} {ws : List Ce}
theorem ins_rep (W : Wd K G H as ws) {c : Str} {d : D} {ks : List Str} {l : List D} {v : V} (e : insOf ws c d = some (ks, l)) (r : Rep K as G d v) :
    ∃ a dx vs, v = .ref a ∧ H a = some (.ins (He.ga K c) dx (ks.zip vs)) ∧ ks.length = l.length ∧ Reps K as G l vs := by
  cases d with
  | ins c' ks' l' =>
    simp only [insOf] at e
    split at e
    · rename_i hc
      cases e
      subst hc
      simp only [Rep] at r
      obtain ⟨a, dx, vs, e1, e2, e3, e4⟩ := r
      exact ⟨a, dx, vs, e1, W.le _ _ e2, e3, e4⟩
    · cases e
  | cell n =>
    simp only [insOf] at e
    cases q : ws[n]? with
    | none => rw [q] at e; cases e
    | some ce =>
      rw [q] at e
      cases ce with
      | ins c' ks' l' =>
        simp only at e
        split at e
        · rename_i hc
          cases e
          subst hc
          obtain ⟨a, o, e1, _, e3, dx, vs, e4, e5, e6⟩ := W.cellAt q (fun z => by cases z) r
          subst e4
          exact ⟨a, dx, vs, e1, e3, e5, e6⟩
        · cases e
      | _ => cases e
  | _ => cases e
end
def sAttr (c f : Str) (i : Nat) (a : Se) : Se := fun ρ ws => (a ρ ws).bind fun x ws1 => match insOf ws1 c x with
  | some (ks, l) => if okI ks f i = true then R.ofO l[i]? ws1 else .bad
  | none => .bad
section
variable {K : PySem.W.Frag} {X : Cx} {E : XK} {e o : Expr} {es : List Expr} {te to : TE} {ta : TA} {se so : Se} {sa : Sa} {pos p apos : Pos} {c f mth x : Str} {k i : Nat}
theorem ae_fld (he : AE K X E e te se) (hc : Cls K (He.ga K c)) (hn : NoAttr K (He.ga K c) f) (hb : attributeBase e f X.env (eval e X.env) = eval e X.env := by rfl) : AE K X E (.Attribute e f pos) (tFld K te f) (sAttr c f i se) := by
  have e0 := he.hK
  subst e0
  refine ⟨rfl, pe_fld he.pe hb, fun ρ ws G H as σ Q W S P => he.ev ρ ws G H as σ _ W S (Post.bind P fun d ws1 u G1 H1 as1 r1 W1 rx P1 => ?_)⟩
  cases q : insOf ws1 c d with
  | none =>
    rw [q] at P1
    exact False.elim P1
  | some kl =>
    obtain ⟨ks, l⟩ := kl
    rw [q] at P1
    simp only at P1
    split at P1
    · rename_i hk
      obtain ⟨z, hz, P2⟩ := Post.ofO P1
      obtain ⟨a, dx, vs, e1, e2, e3, e4⟩ := ins_rep W1 q rx
      obtain ⟨w, e5, e6⟩ := e4.get hz
      exact ⟨a, _, dx, _, w, e1, e2, hc, hn, lookup_zip hk e5, Post.done P2 W1 e6⟩
    · exact False.elim P1
/-! ### promises -/
abbrev Mf := List D → List Ce → R D
/-- a def's promise: it gives what m gives -/
def spM (K : PySem.W.Frag) (m : Mf) : Sp := fun vs H Q E => ∃ G as ws ds, Wd K G H as ws ∧ Reps K as G ds vs ∧ Post K E (Rep K) G H as (m ds ws) Q
/-- the def that the module's name x stands for does m -/
def Cal (P : Program) (w : World) (K : PySem.W.Frag) (mg : Str → Option Value) (base : Heap) (k : Nat) (x : Str) (m : Mf) : Prop := ∃ f fd ps, FnOk P w K mg base (cxk P w) k f fd ps (spM K m) ∧ mg x = some (.ref f) ∧ PySem.W.keepIn K (.ref f) = true ∧ Binds K fd ps []
/-- the method mth of the class c does m -/
def Met (P : Program) (w : World) (K : PySem.W.Frag) (mg : Str → Option Value) (base : Heap) (k : Nat) (c mth : Str) (m : Mf) : Prop := ∃ f fd ps, FnOk P w K mg base (cxk P w) k f fd ps (spM K m) ∧ Cls K (He.ga K c) ∧ Meth K (He.ga K c) mth f ∧ Binds K fd ps []
def sCall (m : Mf) (a : Sa) : Se := fun ρ ws => (a ρ ws).bind fun ds ws1 => m ds ws1
variable {m : Mf}
theorem evCall {K : PySem.W.Frag} {ta : TA} (h : EvA K E ta sa) : EvE K E (tCall (spM K m) [] E ta) (sCall m sa) := fun ρ ws G H as σ Q W S P => h ρ ws G H as σ _ W S (Post.bind P fun ds ws1 vs G1 H1 as1 r1 W1 rs P1 => by
  show spM K m (vs ++ []) H1 Q E
  rw [List.append_nil]
  exact ⟨G1, as1, ws1, ds, W1, rs, P1⟩)
theorem ae_call (cl : Cal X.prog X.w X.K X.mg X.base k x m) (hr : Room k X.A) (hx : Passes (cxk X.prog X.w) X E) (ha : AA K X E (e :: es) ta sa) (hg : Gl X x := by rfl) (hdb : (x == ("__debug__" : Str)) = false := by decide)
    (hs : starEach (e :: es) X.env = (false, eval e X.env) :: starEach es X.env := by rfl) (hpl : (backTo pos (starEach es X.env)).any (·.1) = false := by rfl) : AE K X E (.Call (.Name x p) (e :: es) [] pos) (tCall (spM K m) [] E ta) (sCall m sa) := by
  have e0 := ha.hK
  subst e0
  obtain ⟨f, fd, ps, F, hm, hk, hb⟩ := cl
  exact ⟨rfl, pe_call F hr hg hm hk hb .nil hx ha.pe hdb hs hpl, evCall ha.ev⟩
theorem ae_call0 (cl : Cal X.prog X.w X.K X.mg X.base k x m) (hr : Room k X.A) (hx : Passes (cxk X.prog X.w) X E) (hK : X.K = K := by rfl) (hg : Gl X x := by rfl) (hdb : (x == ("__debug__" : Str)) = false := by decide) :
    AE K X E (.Call (.Name x p) [] [] pos) (tCall (spM K m) [] E tNil) (sCall m sNil) := by
  subst hK
  obtain ⟨f, fd, ps, F, hm, hk, hb⟩ := cl
  exact ⟨rfl, pe_call0 F hr hg hm hk hb .nil hx hdb, evCall evNil⟩
def sMeth (c mth : Str) (m : Mf) (o : Se) (a : Sa) : Se := fun ρ ws => (o ρ ws).bind fun x ws1 => match insOf ws1 c x with
  | some (ks, _) => if mth ∈ ks then .bad else (a ρ ws1).bind fun ds ws2 => m (x :: ds) ws2
  | none => .bad
theorem evMeth {K : PySem.W.Frag} {to : TE} {ta : TA} {m : Mf} (ho : EvE K E to so) (h : EvA K E ta sa) : EvE K E (tMeth (He.ga K c) mth (spM K m) [] E to ta) (sMeth c mth m so sa) := fun ρ ws G H as σ Q W S P => ho ρ ws G H as σ _ W S (Post.bind P fun d ws1 u G1 H1 as1 r1 W1 rx P1 => by
  cases q : insOf ws1 c d with
  | none =>
    rw [q] at P1
    exact False.elim P1
  | some kl =>
    obtain ⟨ks, l⟩ := kl
    rw [q] at P1
    simp only at P1
    split at P1
    · exact False.elim P1
    · rename_i hk
      obtain ⟨a, dx, vs, e1, e2, e3, e4⟩ := ins_rep W1 q rx
      refine ⟨a, dx, _, e1, e2, lookup_zip_none hk, ?_⟩
      refine h ρ ws1 G1 H1 as1 σ _ W1 (S.up r1.pre r1.up) (Post.bind P1 fun ds ws2 us G2 H2 as2 r2 W2 rs P2 => ?_)
      show spM K m (u :: (us ++ [])) H2 Q E
      rw [List.append_nil]
      exact ⟨G2, as2, ws2, d :: ds, W2, Reps.cons (rx.up r2.pre r2.up) rs, P2⟩)
theorem ae_meth {pl : Sem Bool} (cl : Met X.prog X.w X.K X.mg X.base k c mth m) (hr : Room k X.A) (hx : Passes (cxk X.prog X.w) X E) (ho : AE K X E o to so) (ha : AA K X E (e :: es) ta sa)
    (hst : starEach (e :: es) X.env = (false, eval e X.env) :: starEach es X.env := by rfl) (hpl : (backTo pos (starEach es X.env)).any (·.1) = false := by rfl)
    (ht : eval (.Call (.Attribute o mth apos) (e :: es) [] pos) X.env = (do
      let ov ← eval o X.env
      standAt apos.atName
      let (f, first) ← holding [ov] (getMethod ov mth pl)
      callWith pos f first (backTo pos (starEach (e :: es) X.env)) (backToKw pos (keywordEach [] X.env))) := by rfl) : AE K X E (.Call (.Attribute o mth apos) (e :: es) [] pos) (tMeth (He.ga K c) mth (spM K m) [] E to ta) (sMeth c mth m so sa) := by
  have e0 := ha.hK
  subst e0
  obtain ⟨f, fd, ps, F, hc, hm, hb⟩ := cl
  exact ⟨rfl, pe_meth ho.pe hc hm F hr hb .nil hx ha.pe hst hpl ht, evMeth ho.ev ha.ev⟩
theorem ae_meth0 {pl : Sem Bool} (cl : Met X.prog X.w X.K X.mg X.base k c mth m) (hr : Room k X.A) (hx : Passes (cxk X.prog X.w) X E) (ho : AE K X E o to so)
    (ht : eval (.Call (.Attribute o mth apos) [] [] pos) X.env = (do
      let ov ← eval o X.env
      standAt apos.atName
      let (f, first) ← holding [ov] (getMethod ov mth pl)
      callWith pos f first (backTo pos (starEach [] X.env)) (backToKw pos (keywordEach [] X.env))) := by rfl) : AE K X E (.Call (.Attribute o mth apos) [] [] pos) (tMeth (He.ga K c) mth (spM K m) [] E to tNil) (sMeth c mth m so sNil) := by
  have e0 := ho.hK
  subst e0
  obtain ⟨f, fd, ps, F, hc, hm, hb⟩ := cl
  exact ⟨rfl, pe_meth0 ho.pe hc hm F hr hb .nil hx ht, evMeth ho.ev evNil⟩
end
/-! ### the store cut back -/
mutual
def below (n : Nat) : D → Bool
  | .tup l => belows n l
  | .lst l => belows n l
  | .ins _ _ l => belows n l
  | .cell k => decide (k < n)
  | .fz l => belows n l
  | .exc _ _ l => belows n l
  | .dct _ l => belows n l
  | .dcT _ l => belows n l
  | _ => true
def belows (n : Nat) : List D → Bool
  | [] => true
  | d :: ds => below n d && belows n ds
end
def belowC (n : Nat) : Ce → Bool
  | .lst l => belows n l
  | .ins _ _ l => belows n l
  | .dead => true
  | .dct _ l => belows n l
  | .dcT _ l => belows n l
section
variable {K : PySem.W.Frag} {as bs : List Addr} {G G0 : Hp}
theorem prefix_get' {α : Type} {as bs : List α} (h : as <+: bs) {n : Nat} {a : α} (hn : n < as.length) (e : bs[n]? = some a) : as[n]? = some a := by
  obtain ⟨r, rfl⟩ := h
  rw [List.getElem?_append_left hn] at e
  exact e
mutual
theorem Rep.down (hp : as <+: bs) : ∀ {d : D} {v : V}, below as.length d = true → Rep K bs G d v → Rep K as G d v
  | .non, v, _, h => by simpa [Rep] using h
  | .bl b, v, _, h => by simpa [Rep] using h
  | .int i, v, _, h => by simpa [Rep] using h
  | .str s, v, _, h => by simpa [Rep] using h
  | .tup l, v, b, h => by
    simp only [Rep] at h ⊢
    simp only [below] at b
    obtain ⟨a, vs, e, g, h⟩ := h
    exact ⟨a, vs, e, g, Reps.down hp b h⟩
  | .lst l, v, b, h => by
    simp only [Rep] at h ⊢
    simp only [below] at b
    obtain ⟨a, vs, e, g, h⟩ := h
    exact ⟨a, vs, e, g, Reps.down hp b h⟩
  | .ins c ks l, v, b, h => by
    simp only [Rep] at h ⊢
    simp only [below] at b
    obtain ⟨a, dx, vs, e, g, hl, h⟩ := h
    exact ⟨a, dx, vs, e, g, hl, Reps.down hp b h⟩
  | .cell n, v, b, h => by
    simp only [Rep] at h ⊢
    simp only [below, decide_eq_true_eq] at b
    obtain ⟨a, e, g⟩ := h
    exact ⟨a, prefix_get' hp b e, g⟩
  | .cls c, v, _, h => by simpa [Rep] using h
  | .fz l, v, b, h => by
    simp only [Rep] at h ⊢
    simp only [below] at b
    obtain ⟨a, vs, e, g, h⟩ := h
    exact ⟨a, vs, e, g, Reps.down hp b h⟩
  | .exc c ks l, v, b, h => by
    simp only [Rep] at h ⊢
    simp only [below] at b
    obtain ⟨a, dd, vs, e, g, x, hl, h⟩ := h
    exact ⟨a, dd, vs, e, g, x, hl, Reps.down hp b h⟩
  | .dct ks l, v, b, h => by
    simp only [Rep] at h ⊢
    simp only [below] at b
    obtain ⟨a, vs, e, g, hl, h⟩ := h
    exact ⟨a, vs, e, g, hl, Reps.down hp b h⟩
  | .dcT ks l, v, b, h => by
    simp only [Rep] at h ⊢
    simp only [below] at b
    obtain ⟨a, vs, e, g, hl, h⟩ := h
    exact ⟨a, vs, e, g, hl, Reps.down hp b h⟩
theorem Reps.down (hp : as <+: bs) : ∀ {ds : List D} {vs : List V}, belows as.length ds = true → Reps K bs G ds vs → Reps K as G ds vs
  | [], vs, _, h => by simpa [Reps] using h
  | d :: ds, vs, b, h => by
    simp only [Reps] at h ⊢
    simp only [belows, Bool.and_eq_true] at b
    obtain ⟨v, r, e, h1, h2⟩ := h
    exact ⟨v, r, e, Rep.down hp b.1 h1, Reps.down hp b.2 h2⟩
end
/-! what stood for something ahead stands for it behind, by the same cells -/
mutual
theorem Rep.back (hp : as <+: bs) : ∀ {d : D} {v v0 : V}, Rep K as G0 d v0 → Rep K bs G d v → Rep K as G d v
  | .non, v, _, _, h => by simpa [Rep] using h
  | .bl b, v, _, _, h => by simpa [Rep] using h
  | .int i, v, _, _, h => by simpa [Rep] using h
  | .str s, v, _, _, h => by simpa [Rep] using h
  | .tup l, v, v0, b, h => by
    simp only [Rep] at h b ⊢
    obtain ⟨a, vs, e, g, h⟩ := h
    obtain ⟨_, vs0, _, _, b⟩ := b
    exact ⟨a, vs, e, g, Reps.back hp b h⟩
  | .lst l, v, v0, b, h => by
    simp only [Rep] at h b ⊢
    obtain ⟨a, vs, e, g, h⟩ := h
    obtain ⟨_, vs0, _, _, b⟩ := b
    exact ⟨a, vs, e, g, Reps.back hp b h⟩
  | .ins c ks l, v, v0, b, h => by
    simp only [Rep] at h b ⊢
    obtain ⟨a, dx, vs, e, g, hl, h⟩ := h
    obtain ⟨_, _, vs0, _, _, _, b⟩ := b
    exact ⟨a, dx, vs, e, g, hl, Reps.back hp b h⟩
  | .cell n, v, v0, b, h => by
    simp only [Rep] at h b ⊢
    obtain ⟨a, e, g⟩ := h
    obtain ⟨a0, e0, g0⟩ := b
    have q := prefix_get hp e0
    rw [e] at q
    cases q
    exact ⟨a, e0, g⟩
  | .cls c, v, _, _, h => by simpa [Rep] using h
  | .fz l, v, v0, b, h => by
    simp only [Rep] at h b ⊢
    obtain ⟨a, vs, e, g, h⟩ := h
    obtain ⟨_, vs0, _, _, b⟩ := b
    exact ⟨a, vs, e, g, Reps.back hp b h⟩
  | .exc c ks l, v, v0, b, h => by
    simp only [Rep] at h b ⊢
    obtain ⟨a, dd, vs, e, g, x, hl, h⟩ := h
    obtain ⟨_, _, vs0, _, _, _, _, b⟩ := b
    exact ⟨a, dd, vs, e, g, x, hl, Reps.back hp b h⟩
  | .dct ks l, v, v0, b, h => by
    simp only [Rep] at h b ⊢
    obtain ⟨a, vs, e, g, hl, h⟩ := h
    obtain ⟨_, vs0, _, _, _, b⟩ := b
    exact ⟨a, vs, e, g, hl, Reps.back hp b h⟩
  | .dcT ks l, v, v0, b, h => by
    simp only [Rep] at h b ⊢
    obtain ⟨a, vs, e, g, hl, h⟩ := h
    obtain ⟨_, vs0, _, _, _, b⟩ := b
    exact ⟨a, vs, e, g, hl, Reps.back hp b h⟩
theorem Reps.back (hp : as <+: bs) : ∀ {ds : List D} {vs vs0 : List V}, Reps K as G0 ds vs0 → Reps K bs G ds vs → Reps K as G ds vs
  | [], vs, _, _, h => by simpa [Reps] using h
  | d :: ds, vs, vs0, b, h => by
    simp only [Reps] at h b ⊢
    obtain ⟨v, r, e, h1, h2⟩ := h
    obtain ⟨v0, r0, e0, b1, b2⟩ := b
    exact ⟨v, r, e, Rep.back hp b1 h1, Reps.back hp b2 h2⟩
end
theorem RepC.down (hp : as <+: bs) : ∀ {c : Ce} {o : HO}, belowC as.length c = true → RepC K bs G c o → RepC K as G c o
  | .lst l, o, b, h => by
    obtain ⟨vs, e, h⟩ := h
    exact ⟨vs, e, Reps.down hp b h⟩
  | .ins c ks l, o, b, h => by
    obtain ⟨dx, vs, e, hl, h⟩ := h
    exact ⟨dx, vs, e, hl, Reps.down hp b h⟩
  | .dead, o, _, _ => trivial
  | .dct ks l, o, b, h => by
    obtain ⟨vs, e, hl, h⟩ := h
    exact ⟨vs, e, hl, Reps.down hp b h⟩
  | .dcT ks l, o, b, h => by
    obtain ⟨vs, e, hl, h⟩ := h
    exact ⟨vs, e, hl, Reps.down hp b h⟩
theorem RepC.back (hp : as <+: bs) : ∀ {c : Ce} {o o0 : HO}, RepC K as G0 c o0 → RepC K bs G c o → RepC K as G c o
  | .lst l, o, o0, b, h => by
    obtain ⟨vs, e, h⟩ := h
    obtain ⟨vs0, _, b⟩ := b
    exact ⟨vs, e, Reps.back hp b h⟩
  | .ins c ks l, o, o0, b, h => by
    obtain ⟨dx, vs, e, hl, h⟩ := h
    obtain ⟨_, vs0, _, _, b⟩ := b
    exact ⟨dx, vs, e, hl, Reps.back hp b h⟩
  | .dead, o, _, _, _ => trivial
  | .dct ks l, o, o0, b, h => by
    obtain ⟨vs, e, hl, h⟩ := h
    obtain ⟨vs0, _, _, b⟩ := b
    exact ⟨vs, e, hl, Reps.back hp b h⟩
  | .dcT ks l, o, o0, b, h => by
    obtain ⟨vs, e, hl, h⟩ := h
    obtain ⟨vs0, _, _, b⟩ := b
    exact ⟨vs, e, hl, Reps.back hp b h⟩
end
/-- each of the old cells is as it was, or speaks of old cells alone -/
def cutOk (ws ws' : List Ce) : Prop := ∀ i, i < ws.length → ws'[i]? = ws[i]? ∨ ∃ c, ws'[i]? = some c ∧ belowC ws.length c = true
def cutAt (ws ws' : List Ce) (i : Nat) : Bool := decide (ws'[i]? = ws[i]?) || (match ws'[i]? with
  | some c => belowC ws.length c
  | none => false)
theorem cutAt_iff {ws ws' : List Ce} {i : Nat} : cutAt ws ws' i = true ↔ (ws'[i]? = ws[i]? ∨ ∃ c, ws'[i]? = some c ∧ belowC ws.length c = true) := by
  unfold cutAt
  rw [Bool.or_eq_true, decide_eq_true_iff]
  cases e : ws'[i]? with
  | none => simp
  | some c => simp
instance {ws ws' : List Ce} : Decidable (cutOk ws ws') := decidable_of_iff (∀ i ∈ List.range ws.length, cutAt ws ws' i = true) (by
  unfold cutOk
  simp only [List.mem_range, cutAt_iff])
theorem Wd.cut {K : PySem.W.Frag} {G0 H0 G H : Hp} {as bs : List Addr} {ws ws' : List Ce} (W0 : Wd K G0 H0 as ws) (W : Wd K G H bs ws') (hp : as <+: bs) (hc : cutOk ws ws') : Wd K G H as (ws'.take ws.length) where
  le := W.le
  len := by
    have h1 := hp.length_le
    have h2 := W0.len
    have h3 := W.len
    rw [List.length_take]
    omega
  nd := W.nd.sublist hp.sublist
  out := fun a ha => W.out a (hp.subset ha)
  at_ := fun i c a e e' => by
    have hi : i < ws.length := by rw [← W0.len]; exact (List.getElem?_eq_some_iff.mp e').1
    rw [List.getElem?_take_of_lt hi] at e
    rcases W.at_ i c a e (prefix_get hp e') with q | ⟨o, q, r⟩
    · exact .inl q
    · rcases hc i hi with h | ⟨c', h1, h2⟩
      · rw [h] at e
        rcases W0.at_ i c a e e' with q' | ⟨o0, q', r0⟩
        · exact .inl q'
        · exact .inr ⟨o, q, r0.back hp r⟩
      · rw [h1] at e
        cases e
        exact .inr ⟨o, q, r.down hp (by rw [W0.len]; exact h2)⟩
  tb := W.tb
  ng := W.ng
theorem Rch.cut {G H G' H' : Hp} {as as' : List Addr} (r : Rch G H as G' H' as') : Rch G H as G' H' as where
  up := r.up
  pre := List.prefix_refl _
  fr := r.fr
  nw := r.nw
  fs := fun _ h => .inl h
  th := r.th
/-! what is new and will not be written any more becomes fixed -/
mutual
def frzD (n : Nat) (ws : List Ce) : D → Option D
  | .non => some .non
  | .bl b => some (.bl b)
  | .int i => some (.int i)
  | .str s => some (.str s)
  | .cls c => some (.cls c)
  | .tup l => (frzDs n ws l).map .tup
  | .lst l => (frzDs n ws l).map .lst
  | .ins c ks l => (frzDs n ws l).map (.ins c ks)
  | .fz l => (frzDs n ws l).map .fz
  | .exc c ks l => (frzDs n ws l).map (.exc c ks)
  | .dct ks l => (frzDs n ws l).map (.dct ks)
  | .dcT ks l => (frzDs n ws l).map (.dcT ks)
  | .cell k => if k < n then some (.cell k) else match ws[k]? with
    | some (.lst l) => if belows n l then some (.lst l) else none
    | some (.ins c ks l) => if belows n l then some (.ins c ks l) else none
    | some (.dct ks l) => if belows n l then some (.dct ks l) else none
    | some (.dcT ks l) => if belows n l then some (.dcT ks l) else none
    | _ => none
def frzDs (n : Nat) (ws : List Ce) : List D → Option (List D)
  | [] => some []
  | d :: ds => (frzD n ws d).bind fun x => (frzDs n ws ds).map (x :: ·)
end
/-- G with what H has at l -/
def gz (G H : Hp) (l : List Addr) : Hp := fun a => if a ∈ l then H a else G a
section
variable {K : PySem.W.Frag} {G0 H0 G H : Hp} {as l : List Addr} {ws ws' : List Ce}
theorem gz_up (W : Wd K G H (as ++ l) ws') : Same G (gz G H l) := fun b o e => by
  unfold gz
  split
  · rename_i h
    rw [(W.out b (List.mem_append_right _ h)).1] at e
    cases e
  · exact e
theorem gz_out (W : Wd K G H (as ++ l) ws') {a : Addr} (ha : a ∈ as) : gz G H l a = none := by
  unfold gz
  rw [if_neg (fun h => by
    have := (List.nodup_append.mp W.nd).2.2 a ha a h
    exact this rfl)]
  exact (W.out a (List.mem_append_left _ ha)).1
theorem frz_reach (r : Rch G0 H0 as G H (as ++ l)) (W : Wd K G H (as ++ l) ws') : Rch G0 H0 as (gz G H l) H as where
  up := r.up.trans (gz_up W)
  pre := List.prefix_refl _
  fr := r.fr
  nw := fun b hb e => by
    unfold gz
    split
    · rename_i h
      rcases r.fs b (List.mem_append_right _ h) with q | q
      · exact absurd rfl ((List.nodup_append.mp W.nd).2.2 b q b h)
      · exact absurd hb q
    · exact r.nw b hb e
  fs := fun _ h => .inl h
  th := r.th
theorem frz_wd (W0 : Wd K G0 H0 as ws) (W : Wd K G H (as ++ l) ws') (hc : cutOk ws ws') : Wd K (gz G H l) H as (ws'.take ws.length) := by
  have C := W0.cut W (List.prefix_append _ _) hc
  refine ⟨fun b o e => ?_, C.len, C.nd, fun a ha => ⟨gz_out W ha, (C.out a ha).2⟩, fun i c a e e' => ?_, W.tb, fun b ps z => ?_⟩
  · unfold gz at e
    split at e
    · exact e
    · exact W.le _ _ e
  · rcases C.at_ i c a e e' with q | ⟨o, q, r⟩
    · exact .inl q
    · exact .inr ⟨o, q, r.up (List.prefix_refl _) (gz_up W)⟩
  · unfold gz at z
    split at z
    · rename_i h
      obtain ⟨o, e, k⟩ := (W.out b (List.mem_append_right _ h)).2
      rw [e] at z
      exact k ps (Option.some.inj z)
    · exact W.ng _ _ z
mutual
theorem frz_rep (W : Wd K G H (as ++ l) ws') : ∀ {d d' : D} {v : V}, frzD as.length ws' d = some d' → Rep K (as ++ l) G d v → Rep K as (gz G H l) d' v
  | .non, d', v, e, h => by simp only [frzD, Option.some.injEq] at e; subst e; simpa [Rep] using h
  | .bl b, d', v, e, h => by simp only [frzD, Option.some.injEq] at e; subst e; simpa [Rep] using h
  | .int i, d', v, e, h => by simp only [frzD, Option.some.injEq] at e; subst e; simpa [Rep] using h
  | .str s, d', v, e, h => by simp only [frzD, Option.some.injEq] at e; subst e; simpa [Rep] using h
  | .cls c, d', v, e, h => by simp only [frzD, Option.some.injEq] at e; subst e; simpa [Rep] using h
  | .tup m, d', v, e, h => by
    simp only [frzD, Option.map_eq_some_iff] at e
    obtain ⟨m', e1, e2⟩ := e
    subst e2
    simp only [Rep] at h ⊢
    obtain ⟨a, vs, e3, e4, e5⟩ := h
    exact ⟨a, vs, e3, gz_up W _ _ e4, frz_reps W e1 e5⟩
  | .lst m, d', v, e, h => by
    simp only [frzD, Option.map_eq_some_iff] at e
    obtain ⟨m', e1, e2⟩ := e
    subst e2
    simp only [Rep] at h ⊢
    obtain ⟨a, vs, e3, e4, e5⟩ := h
    exact ⟨a, vs, e3, gz_up W _ _ e4, frz_reps W e1 e5⟩
  | .fz m, d', v, e, h => by
    simp only [frzD, Option.map_eq_some_iff] at e
    obtain ⟨m', e1, e2⟩ := e
    subst e2
    simp only [Rep] at h ⊢
    obtain ⟨a, vs, e3, e4, e5⟩ := h
    exact ⟨a, vs, e3, sqL_up (gz_up W) e4, frz_reps W e1 e5⟩
  | .exc c ks m, d', v, e, h => by
    simp only [frzD, Option.map_eq_some_iff] at e
    obtain ⟨m', e1, e2⟩ := e
    subst e2
    simp only [Rep] at h ⊢
    obtain ⟨a, dd, vs, e3, e4, x, e6, e5⟩ := h
    have q := frz_reps W e1 e5
    exact ⟨a, dd, vs, e3, gz_up W _ _ e4, x.up (gz_up W), by rw [q.len, e6, e5.len], q⟩
  | .dct ks m, d', v, e, h => by
    simp only [frzD, Option.map_eq_some_iff] at e
    obtain ⟨m', e1, e2⟩ := e
    subst e2
    simp only [Rep] at h ⊢
    obtain ⟨a, vs, e3, e4, e6, e5⟩ := h
    have q := frz_reps W e1 e5
    exact ⟨a, vs, e3, gz_up W _ _ e4, by rw [q.len, e6, e5.len], q⟩
  | .dcT ks m, d', v, e, h => by
    simp only [frzD, Option.map_eq_some_iff] at e
    obtain ⟨m', e1, e2⟩ := e
    subst e2
    simp only [Rep] at h ⊢
    obtain ⟨a, vs, e3, e4, e6, e5⟩ := h
    have q := frz_reps W e1 e5
    exact ⟨a, vs, e3, gz_up W _ _ e4, by rw [q.len, e6, e5.len], q⟩
  | .ins c ks m, d', v, e, h => by
    simp only [frzD, Option.map_eq_some_iff] at e
    obtain ⟨m', e1, e2⟩ := e
    subst e2
    simp only [Rep] at h ⊢
    obtain ⟨a, dx, vs, e3, e4, e6, e5⟩ := h
    have q := frz_reps W e1 e5
    exact ⟨a, dx, vs, e3, gz_up W _ _ e4, by rw [q.len, e6, e5.len], q⟩
  | .cell k, d', v, e, h => by
    have h0 := h
    simp only [Rep] at h
    obtain ⟨a, e1, e2⟩ := h
    simp only [frzD] at e
    split at e
    · rename_i hk
      cases e
      simp only [Rep]
      exact ⟨a, by rw [List.getElem?_append_left hk] at e1; exact e1, e2⟩
    · rename_i hk
      have hal : a ∈ l := by
        rw [List.getElem?_append_right (by omega)] at e1
        exact List.mem_of_getElem? e1
      cases q : ws'[k]? with
      | none => rw [q] at e; cases e
      | some c =>
        rw [q] at e
        cases c with
        | lst m =>
          simp only at e
          split at e
          · rename_i hb
            cases e
            obtain ⟨a', o, f1, f2, f3, f4⟩ := W.cellAt q (fun z => by cases z) h0
            rw [e1] at f2
            cases f2
            obtain ⟨vs, f5, f6⟩ := f4
            subst f5
            simp only [Rep]
            refine ⟨a, vs, e2, ?_, (f6.down (List.prefix_append _ _) hb).up (List.prefix_refl _) (gz_up W)⟩
            unfold gz
            rw [if_pos hal]
            exact f3
          · cases e
        | ins c ks m =>
          simp only at e
          split at e
          · rename_i hb
            cases e
            obtain ⟨a', o, f1, f2, f3, f4⟩ := W.cellAt q (fun z => by cases z) h0
            rw [e1] at f2
            cases f2
            obtain ⟨dx, vs, f5, f7, f6⟩ := f4
            subst f5
            simp only [Rep]
            refine ⟨a, dx, vs, e2, ?_, f7, (f6.down (List.prefix_append _ _) hb).up (List.prefix_refl _) (gz_up W)⟩
            unfold gz
            rw [if_pos hal]
            exact f3
          · cases e
        | dct ks m =>
          simp only at e
          split at e
          · rename_i hb
            cases e
            obtain ⟨a', o, f1, f2, f3, f4⟩ := W.cellAt q (fun z => by cases z) h0
            rw [e1] at f2
            cases f2
            obtain ⟨vs, f5, f7, f6⟩ := f4
            subst f5
            simp only [Rep]
            refine ⟨a, vs, e2, ?_, f7, (f6.down (List.prefix_append _ _) hb).up (List.prefix_refl _) (gz_up W)⟩
            unfold gz
            rw [if_pos hal]
            exact f3
          · cases e
        | dcT ks m =>
          simp only at e
          split at e
          · rename_i hb
            cases e
            obtain ⟨a', o, f1, f2, f3, f4⟩ := W.cellAt q (fun z => by cases z) h0
            rw [e1] at f2
            cases f2
            obtain ⟨vs, f5, f7, f6⟩ := f4
            subst f5
            simp only [Rep]
            refine ⟨a, vs, e2, ?_, f7, (f6.down (List.prefix_append _ _) hb).up (List.prefix_refl _) (gz_up W)⟩
            unfold gz
            rw [if_pos hal]
            exact f3
          · cases e
        | dead => cases e
theorem frz_reps (W : Wd K G H (as ++ l) ws') : ∀ {ds ds' : List D} {vs : List V}, frzDs as.length ws' ds = some ds' → Reps K (as ++ l) G ds vs → Reps K as (gz G H l) ds' vs
  | [], ds', vs, e, h => by simp only [frzDs, Option.some.injEq] at e; subst e; rw [h.unnil]; exact Reps.nil
  | d :: ds, ds', vs, e, h => by
    simp only [frzDs, Option.bind_eq_some_iff, Option.map_eq_some_iff] at e
    obtain ⟨d', e1, ds2, e2, e3⟩ := e
    subst e3
    obtain ⟨v, vs', f1, f2, f3⟩ := h.uncons
    subst f1
    exact Reps.cons (frz_rep W e1 f2) (frz_reps W e2 f3)
end
end
/-- what was made since n is fixed and forgotten -/
def frzR (ws : List Ce) (r : R D) : R D := match r with
  | .ok d ws' => if ws'.length = ws.length then .ok d ws' else match frzD ws.length ws' d with
    | some d' => if cutOk ws ws' then .ok d' (ws'.take ws.length) else .bad
    | none => .bad
  | .ex e ws' => if ws'.length = ws.length then .ex e ws' else if belows ws.length e.l = true ∧ cutOk ws ws' then .ex e (ws'.take ws.length) else .bad
  | .bad => .bad
theorem frz_post {K : PySem.W.Frag} {E : XK} {G H : Hp} {as : List Addr} {ws : List Ce} {r : R D} {Q : VK} (W : Wd K G H as ws) (h : Post K E (Rep K) G H as (frzR ws r) Q) : Post K E (Rep K) G H as r Q := by
  cases r with
  | ok d ws' =>
    intro v G' H' as' r' W' rep
    simp only [frzR] at h
    split at h
    · exact h v G' H' as' r' W' rep
    · split at h
      · rename_i d' hd
        split at h
        · rename_i hc
          obtain ⟨l, rfl⟩ := r'.pre
          exact h v _ H' as (frz_reach r' W') (frz_wd W W' hc) (frz_rep W' (by rw [W.len]; exact hd) rep)
        · exact False.elim h
      · exact False.elim h
  | ex e ws' =>
    intro cls dd G' H' as' r' W' rep
    simp only [frzR] at h
    split at h
    · exact h cls dd G' H' as' r' W' rep
    · split at h
      · rename_i hb
        obtain ⟨e1, vs, e2, e4, e5⟩ := rep
        exact h cls dd G' H' as r'.cut (W.cut W' r'.pre hb.2) ⟨e1, vs, e2, e4, e5.down r'.pre (by rw [W.len]; exact hb.1)⟩
      · exact False.elim h
  | bad => exact False.elim h
theorem prefix_eq {α : Type} {as bs : List α} (h : as <+: bs) (e : bs.length = as.length) : bs = as := (h.eq_of_length e.symm).symm
/-- how a body ends -/
def flR (r : R (List (Option D) × Fl)) : R D := r.bind fun p ws' => match p.2 with
  | .rt d => .ok d ws'
  | .nx => .ok .non ws'
  | _ => .bad
/-- the end of a def: what it made is kept, or fixed and forgotten -/
def fin (kp : Bool) (ws : List Ce) (r : R (List (Option D) × Fl)) : R D := if kp = true then flR r else frzR ws (flR r)
theorem flR_post {K : PySem.W.Frag} {E : XK} {G H : Hp} {as : List Addr} {r : R (List (Option D) × Fl)} {Q : VK} (h : Post K E (Rep K) G H as (flR r) Q) : PostS K E G H as r { nx := fun _ H' => Q .non H', rt := Q } := by
  cases r with
  | ok a ws' =>
    obtain ⟨ρ', fl⟩ := a
    cases fl with
    | rt d => exact fun v G' H' as' r' W' rep => h v G' H' as' r' W' rep
    | nx => exact fun G' H' as' σ' r' W' rep => h .non G' H' as' r' W' (by simp [Rep])
    | bk => exact False.elim h
    | ct => exact False.elim h
  | ex e ws' => exact h
  | bad => exact False.elim h
/-- from what is wanted of the def to what is wanted of its body -/
theorem fin_post {K : PySem.W.Frag} {E : XK} {G H : Hp} {as : List Addr} {ws : List Ce} {kp : Bool} {r : R (List (Option D) × Fl)} {Q : VK} (W : Wd K G H as ws) (h : Post K E (Rep K) G H as (fin kp ws r) Q) :
    PostS K E G H as r { nx := fun _ H' => Q .non H', rt := Q } := by
  unfold fin at h
  split at h
  · exact flR_post h
  · exact flR_post (frz_post W h)
/-! ### a def by its body -/
def startD (N : List Str) (ds : List D) : List (Option D) := ds.map some ++ List.replicate (N.length - ds.length) none
theorem start_rep {K : PySem.W.Frag} {as : List Addr} {G : Hp} {N : List Str} {ds : List D} {vs : List V} (r : Reps K as G ds vs) : SRep K as G (startD N ds) (start N vs) := by
  have hl := r.len
  refine ⟨by simp [startD, L2.start, hl], fun i d e => ?_⟩
  unfold startD at e
  by_cases hi : i < ds.length
  · rw [List.getElem?_append_left (by simpa using hi), List.getElem?_map] at e
    cases q : ds[i]? with
    | none => rw [q] at e; cases e
    | some d' =>
      rw [q] at e
      cases e
      obtain ⟨v, h1, h2⟩ := r.get q
      refine ⟨v, ?_, h2⟩
      unfold L2.start
      rw [List.getElem?_append_left (by rw [List.length_map, ← hl]; exact hi), List.getElem?_map, h1]
      rfl
  · rw [List.getElem?_append_right (by simpa using hi), List.getElem?_replicate] at e
    split at e <;> cases e
/-- what a def of np parameters and the slots N does, its body being g -/
def bodyM (kp : Bool) (np : Nat) (N : List Str) (g : Ss) : List D → List Ce → R D := fun ds ws => if ds.length = np then fin kp ws (g (startD N ds) ws) else .bad
section
variable {P : Program} {w : World} {K : PySem.W.Frag} {mg : Str → Option Value} {base : Heap} {x qual : Str} {params : Arguments} {body : List Stmt} {scope : Scope} {dvs : List V} {kws : List (Str × V)} {f : Addr} {fd : FuncData}
/-- the context of a def's body -/
structure Ctx (P : Program) (w : World) (K : PySem.W.Frag) (mg : Str → Option Value) (base : Heap) (N : List Str) (scope : Scope) (k : Nat) (X : Cx) (E : XK) : Prop where
  room : Room k X.A
  tk : Tk X fun cls d _ H => E cls d H
  px : Passes (cxk X.prog X.w) X E
  own : PassesOwn (model X.prog X.w) X.A X.env X.xe
theorem fn_ok {N ps : List Str} {k : Nat} {g : Ss} {kp : Bool} (F : FunD K x qual params body scope dvs kws f fd) (S : FnScope N ps scope)
    (hb : ∀ (cdv : Value) (A : Around) (outer : List Env) (s : Shared) (H : Hp) (E : XK), Ctx P w K mg base N scope k (cxOf (cxk P w) P w K mg base N qual scope f cdv A outer s H E) E → ∃ ts, ASs K (cxOf (cxk P w) P w K mg base N qual scope f cdv A outer s H E) E body ts g) :
    FnOk P w K mg base (cxk P w) (k + 1) f fd ps (spM K (bodyM kp ps.length N g)) := by
  refine F.ok S (fun vs H Q E h => ?_) (fun cdv A outer s H vs Q E hr h => ?_)
  · obtain ⟨G, as, ws, ds, W, rs, P⟩ := h
    unfold bodyM at P
    split at P
    · rename_i e
      rw [← rs.len]
      exact e
    · exact False.elim P
  · obtain ⟨G, as, ws, ds, W, rs, Pt⟩ := h
    have tk : Tk (cxOf (cxk P w) P w K mg base N qual scope f cdv A outer s H E) fun cls d _ H => E cls d H := tk_of
    obtain ⟨ts, hA⟩ := hb cdv A outer s H E ⟨hr, tk, tk_px tk, PassesOwn.leaving⟩
    refine ⟨ts, hA.pe, ?_⟩
    unfold bodyM at Pt
    split at Pt
    · exact hA.ev _ ws G H as _ _ W (start_rep rs) (fin_post W Pt)
    · exact False.elim Pt
end
end RL
set_option Elab.async false
set_option linter.all false
set_option maxRecDepth 100000
/-! RL4: statements, targets, loops, comprehensions. -/
namespace RL
open PySem PySem.Spec PyProof.Rows L2
/-! ### blocks -/
def sNext : Ss := fun ρ ws => .ok (ρ, .nx) ws
def sBad : Ss := fun _ _ => .bad
def sSeq (s t : Ss) : Ss := fun ρ ws => (s ρ ws).bind fun r ws1 => match r with
  | (ρ1, .nx) => t ρ1 ws1
  | (ρ1, fl) => .ok (ρ1, fl) ws1
section
variable {K : PySem.W.Frag} {E : XK}
theorem evSeq {t u : TS} {s r : Ss} (h1 : EvS K E t s) (h2 : EvS K E u r) : EvS K E (tSeq t u) (sSeq s r) := fun ρ ws G H as σ D W S P => by
  refine h1 ρ ws G H as σ _ W S ?_
  have P' : PostS K E G H as ((s ρ ws).bind fun r' ws1 => match r' with
    | (ρ1, .nx) => r ρ1 ws1
    | (ρ1, fl) => .ok (ρ1, fl) ws1) D := P
  cases e : s ρ ws with
  | ok a ws1 =>
    rw [e] at P'
    obtain ⟨ρ1, fl⟩ := a
    cases fl with
    | nx => exact fun G1 H1 as1 σ1 r1 W1 S1 => h2 ρ1 ws1 G1 H1 as1 σ1 D W1 S1 (PostS.from P' r1)
    | rt d => exact P'
    | bk => exact P'
    | ct => exact P'
  | ex x ws1 =>
    rw [e] at P'
    exact P'
  | bad =>
    rw [e] at P'
    exact False.elim P'
end
section
variable {K : PySem.W.Frag} {X : Cx} {E : XK} {st : Stmt} {sts rest : List Stmt} {t u : TS} {s r : Ss} {pos : Pos}
theorem ass_nil (hK : X.K = K := by rfl) : ASs K X E [] tNext sNext := ⟨hK, pss_nil, fun ρ ws G H as σ D W S P => P G H as σ Rch.refl W S⟩
theorem ass_cons (h1 : AS K X E st t s) (h2 : ASs K X E rest u r) : ASs K X E (st :: rest) (tSeq t u) (sSeq s r) := ⟨h1.hK, pss_cons h1.pe h2.pe, evSeq h1.ev h2.ev⟩
theorem ass_one (h1 : AS K X E st t s) : ASs K X E [st] t s := ⟨h1.hK, pss_one h1.pe, h1.ev⟩
theorem as_never (hK : X.K = K := by rfl) : AS K X E st tNever sBad := ⟨hK, ps_never, fun ρ ws G H as σ D W S P => P⟩
theorem ass_never (hK : X.K = K := by rfl) : ASs K X E sts tNever sBad := ⟨hK, pss_never, fun ρ ws G H as σ D W S P => P⟩
theorem as_pass (hK : X.K = K := by rfl) : AS K X E (.Pass pos) tNext sNext := ⟨hK, ps_pass, fun ρ ws G H as σ D W S P => P G H as σ Rch.refl W S⟩
/-! ### return, expressions, if -/
variable {e c : Expr} {te : TE} {se : Se} {tc : TT} {ba : Sb} {a b : List Stmt}
def sRet (a : Se) : Ss := fun ρ ws => (a ρ ws).bind fun d ws1 => .ok (ρ, .rt d) ws1
def sExpr (a : Se) : Ss := fun ρ ws => (a ρ ws).bind fun _ ws1 => .ok (ρ, .nx) ws1
def sIfS (t : Sb) (a b : Ss) : Ss := fun ρ ws => (t ρ ws).bind fun x ws1 => if x = true then a ρ ws1 else b ρ ws1
theorem as_ret (he : AE K X E e te se) : AS K X E (.Return (some e) pos) (tRet te) (sRet se) :=
  ⟨he.hK, ps_ret he.pe, fun ρ ws G H as σ D W S P => he.ev ρ ws G H as σ _ W S (PostS.bind P fun d ws1 v G1 H1 as1 r1 W1 rx P1 => P1 v G1 H1 as1 Rch.refl W1 rx)⟩
theorem as_retN (hK : X.K = K := by rfl) : AS K X E (.Return none pos) tRetN (sRet (sC .non)) := ⟨hK, ps_retN, fun ρ ws G H as σ D W S P => P .non G H as Rch.refl W (by simp [Rep])⟩
theorem as_expr (he : AE K X E e te se) (hs : swapsWith e none pos.line X.env = pure false := by rfl) : AS K X E (.Expr e pos) (tDrop te) (sExpr se) :=
  ⟨he.hK, ps_expr he.pe hs, fun ρ ws G H as σ D W S P => he.ev ρ ws G H as σ _ W S (PostS.bind P fun d ws1 v G1 H1 as1 r1 W1 rx P1 => P1 G1 H1 as1 σ Rch.refl W1 (S.up r1.pre r1.up))⟩
theorem as_if (hc : AT K X E c tc ba) (ha : ASs K X E a t s) (hb : ASs K X E b u r) : AS K X E (.If c a b pos) (tIfS tc t u) (sIfS ba s r) := by
  refine ⟨hc.hK, ps_if hc.pe ha.pe hb.pe, fun ρ ws G H as σ D W S P => hc.ev ρ ws G H as σ _ W S (PostS.bind P fun x ws1 b G1 H1 as1 r1 W1 rx P1 => ?_)⟩
  cases rx
  cases x with
  | true => exact ha.ev ρ ws1 G1 H1 as1 σ _ W1 (S.up r1.pre r1.up) P1
  | false => exact hb.ev ρ ws1 G1 H1 as1 σ _ W1 (S.up r1.pre r1.up) P1
end
/-! ### targets -/
/-- only the slots sl have changed -/
def Chg (sl : List Nat) (σ σ' : L2.St) : Prop := σ'.length = σ.length ∧ ∀ j, j ∉ sl → σ'[j]? = σ[j]?
theorem Chg.refl {sl : List Nat} {σ : L2.St} : Chg sl σ σ := ⟨rfl, fun _ _ => rfl⟩
theorem Chg.trans {s1 s2 : List Nat} {σ σ1 σ2 : L2.St} (a : Chg s1 σ σ1) (b : Chg s2 σ1 σ2) : Chg (s1 ++ s2) σ σ2 := ⟨b.1.trans a.1, fun j h => by
  rw [List.mem_append, not_or] at h
  rw [b.2 j h.2, a.2 j h.1]⟩
theorem Chg.set {i : Nat} {σ : L2.St} {v : Option V} : Chg [i] σ (σ.set i v) := ⟨List.length_set, fun j h => List.getElem?_set_ne (fun z => h (by rw [z]; simp))⟩
theorem wipe_get {σ : L2.St} : ∀ {vs : List Nat} {j : Nat}, (wipe σ vs)[j]? = if j ∈ vs ∧ j < σ.length then some none else σ[j]?
  | [], j => by simp [wipe]
  | v :: vs, j => by
    unfold wipe
    by_cases h : v = j
    · subst h
      by_cases hl : v < σ.length
      · rw [List.getElem?_set_self (by rw [wipe_length]; exact hl), if_pos ⟨List.mem_cons_self, hl⟩]
      · rw [List.getElem?_eq_none (by rw [List.length_set, wipe_length]; omega), if_neg (fun z => hl z.2), List.getElem?_eq_none (by omega)]
    · rw [List.getElem?_set_ne h, wipe_get]
      by_cases hv : j ∈ vs
      · by_cases hl : j < σ.length
        · rw [if_pos ⟨hv, hl⟩, if_pos ⟨List.mem_cons_of_mem _ hv, hl⟩]
        · rw [if_neg (fun z => hl z.2), if_neg (fun z => hl z.2)]
      · rw [if_neg (fun z => hv z.1), if_neg (fun z => by
          rcases List.mem_cons.mp z.1 with q | q
          · exact h q.symm
          · exact hv q)]
theorem wipe_chg {sl vs : List Nat} {σ σ' : L2.St} (c : Chg sl σ σ') (h : ∀ i ∈ sl, i ∈ vs) : wipe σ' vs = wipe σ vs := by
  apply List.ext_getElem?
  intro j
  rw [wipe_get, wipe_get, c.1]
  by_cases hj : j ∈ vs ∧ j < σ.length
  · rw [if_pos hj, if_pos hj]
  · rw [if_neg hj, if_neg hj]
    by_cases hs : j ∈ sl
    · have : ¬ j < σ.length := fun z => hj ⟨h j hs, z⟩
      rw [List.getElem?_eq_none (by rw [c.1]; omega), List.getElem?_eq_none (by omega)]
    · exact c.2 j hs
theorem wipe_wipe {σ : L2.St} {vs : List Nat} : wipe (wipe σ vs) vs = wipe σ vs := by
  apply List.ext_getElem?
  intro j
  rw [wipe_get, wipe_get, wipe_length]
  by_cases hj : j ∈ vs ∧ j < σ.length
  · rw [if_pos hj, if_pos hj]
  · rw [if_neg hj, if_neg hj]
def wipeD (ρ : List (Option D)) : List Nat → List (Option D)
  | [] => ρ
  | v :: vs => (wipeD ρ vs).set v none
theorem SRep.wipe {K : PySem.W.Frag} {as : List Addr} {G : Hp} {ρ : List (Option D)} {σ : L2.St} : ∀ {vs : List Nat}, SRep K as G ρ σ → SRep K as G (wipeD ρ vs) (L2.wipe σ vs)
  | [], h => h
  | v :: vs, h => (SRep.wipe (vs := vs) h).forget
abbrev Tg := D → List (Option D) → List Ce → R (List (Option D))
def relS (K : PySem.W.Frag) (sl : List Nat) (σ : L2.St) : List Addr → Hp → List (Option D) → L2.St → Prop := fun as G ρ' σ' => SRep K as G ρ' σ' ∧ Chg sl σ σ'
def EvG (K : PySem.W.Frag) (E : XK) (g : TG) (sl : List Nat) (t : Tg) : Prop := ∀ d v ρ ws G H as σ Q, Wd K G H as ws → SRep K as G ρ σ → Rep K as G d v → Post K E (relS K sl σ) G H as (t d ρ ws) Q → g v σ H Q
structure AG (K : PySem.W.Frag) (X : Cx) (E : XK) (tg : Expr) (g : TG) (sl : List Nat) (t : Tg) : Prop where
  hK : X.K = K
  pe : PG X tg g
  ev : EvG K E g sl t
abbrev Tgs := List D → List (Option D) → List Ce → R (List (Option D))
def EvGs (K : PySem.W.Frag) (E : XK) (g : TGs) (sl : List Nat) (t : Tgs) : Prop := ∀ ds vs ρ ws G H as σ Q, Wd K G H as ws → SRep K as G ρ σ → Reps K as G ds vs → Post K E (relS K sl σ) G H as (t ds ρ ws) Q → g vs σ H Q
structure AGs (K : PySem.W.Frag) (X : Cx) (E : XK) (tgs : List Expr) (g : TGs) (sl : List Nat) (t : Tgs) : Prop where
  hK : X.K = K
  pe : PGs X tgs g
  ev : EvGs K E g sl t
def tgName (i : Nat) : Tg := fun d ρ ws => .ok (ρ.set i (some d)) ws
def tgNil : Tgs := fun ds ρ ws => match ds with
  | [] => .ok ρ ws
  | _ => .bad
def tgCons (t : Tg) (u : Tgs) : Tgs := fun ds ρ ws => match ds with
  | [] => .bad
  | d :: r => (t d ρ ws).bind fun ρ1 ws1 => u r ρ1 ws1
def tgTup (n : Nat) (t : Tgs) : Tg := fun d ρ ws => match tupOf d with
  | some l => if l.length = n then t l ρ ws else .bad
  | none => .bad
section
variable {K : PySem.W.Frag} {X : Cx} {E : XK} {pos : Pos}
theorem evName {i : Nat} : EvG K E (gName i) [i] (tgName i) := fun d v ρ ws G H as σ Q W S r P => P _ G H as Rch.refl W ⟨S.set r, Chg.set⟩
theorem ag_name (i : Nat) {x : Str} (hN : X.N.Nodup) (hK : X.K = K := by rfl) (hi : X.N[i]? = some x := by rfl) (hx : Loc X.env.scope x := by first | exact .inl rfl | exact .inr rfl) (hf : X.fn x = true ∨ X.env.scope.names.lookup x = some .local := by first | exact .inl rfl | exact .inr rfl) :
    AG K X E (.Name x pos) (gName i) [i] (tgName i) := ⟨hK, pg_name hN hi hx hf, evName⟩
theorem ags_nil (hK : X.K = K := by rfl) : AGs K X E [] gNil [] tgNil := ⟨hK, pgs_nil, fun ds vs ρ ws G H as σ Q W S r P => by
  cases ds with
  | nil =>
    rw [r.unnil]
    exact ⟨rfl, P σ G H as Rch.refl W ⟨S, Chg.refl⟩⟩
  | cons _ _ => exact False.elim P⟩
theorem Post.chg {s1 s2 : List Nat} {G H : Hp} {as : List Addr} {σ σ1 : L2.St} {out : R (List (Option D))} {Q : L2.St → Hp → Prop} (c : Chg s1 σ σ1) (P : Post K E (relS K (s1 ++ s2) σ) G H as out Q) : Post K E (relS K s2 σ1) G H as out Q := by
  cases out with
  | ok a ws' => exact fun b G' H' as' r w q => P b G' H' as' r w ⟨q.1, c.trans q.2⟩
  | ex e ws' => exact P
  | bad => exact P
theorem ags_cons {e : Expr} {es : List Expr} {t : TG} {u : TGs} {s1 s2 : List Nat} {f : Tg} {g : Tgs} (h1 : AG K X E e t s1 f) (h2 : AGs K X E es u s2 g)
    (hs : (assignEach (e :: es) X.env).map (·.2) = assign e X.env :: (assignEach es X.env).map (·.2) := by rfl) : AGs K X E (e :: es) (gCons t u) (s1 ++ s2) (tgCons f g) :=
  ⟨h1.hK, pgs_cons h1.pe h2.pe hs, fun ds vs ρ ws G H as σ Q W S r P => by
    cases ds with
    | nil => exact False.elim P
    | cons d ds =>
      obtain ⟨v, vs', e1, e2, e3⟩ := r.uncons
      refine ⟨v, vs', e1, ?_⟩
      have P' : Post K E (relS K (s1 ++ s2) σ) G H as ((f d ρ ws).bind fun ρ1 ws1 => g ds ρ1 ws1) Q := P
      refine h1.ev d v ρ ws G H as σ _ W S e2 (Post.bind P' fun ρ1 ws1 σ1 G1 H1 as1 r1 W1 rs P1 => ?_)
      exact h2.ev ds vs' ρ1 ws1 G1 H1 as1 σ1 Q W1 rs.1 (e3.up r1.pre r1.up) (Post.chg rs.2 P1)⟩
theorem ag_tup {es : List Expr} {k : Nat} {t : TGs} {n : Nat} {sl : List Nat} {f : Tgs} (h : AGs K X E es t sl f) (hc : X.calm = true := by rfl)
    (hn : (assignEach es X.env).length = n := by rfl) (hst : (assignEach es X.env).findIdx? (·.1) = none := by rfl) : AG K X E (.Tuple es k pos) (gTup K n t) sl (tgTup n f) := by
  have e0 := h.hK
  subst e0
  refine ⟨rfl, pg_tup hc h.pe hn hst, fun d v ρ ws G H as σ Q W S r P => ?_⟩
  unfold tgTup at P
  cases q : tupOf d with
  | none =>
    rw [q] at P
    exact False.elim P
  | some l =>
    rw [q] at P
    simp only at P
    split at P
    · rename_i hl
      obtain ⟨a, vs, e1, e2, e3⟩ := tup_rep W q r
      exact ⟨a, vs, e1, .inl (.inl e2), by rw [← e3.len]; exact hl, h.ev l vs ρ ws G H as σ Q W S e3 P⟩
    · exact False.elim P
/-! ### assignments -/
variable {e tg : Expr} {te : TE} {se : Se} {g : TG} {sl : List Nat} {t : Tg}
def sAsg (a : Se) (t : Tg) : Ss := fun ρ ws => (a ρ ws).bind fun d ws1 => (t d ρ ws1).bind fun ρ1 ws2 => .ok (ρ1, .nx) ws2
theorem evAsg (he : EvE K E te se) (hg : EvG K E g sl t) : EvS K E (tAsg te g) (sAsg se t) := fun ρ ws G H as σ D W S P => he ρ ws G H as σ _ W S (PostS.bind P fun d ws1 v G1 H1 as1 r1 W1 rx P1 =>
  hg d v ρ ws1 G1 H1 as1 σ _ W1 (S.up r1.pre r1.up) rx (PostS.bind P1 fun ρ1 ws2 σ1 G2 H2 as2 r2 W2 rs P2 => P2 G2 H2 as2 σ1 Rch.refl W2 rs.1))
theorem as_asg (he : AE K X E e te se) (hg : AG K X E tg g sl t) (hs : swapsWithSole [tg] e pos.line X.env = pure false := by rfl) (hw : swappedStores [tg] e X.env = pure none := by rfl)
    (h1 : (assignEach [tg] X.env).map (·.2) = [assign tg X.env] := by rfl) : AS K X E (.Assign [tg] e pos) (tAsg te g) (sAsg se t) := ⟨he.hK, ps_asg he.pe hg.pe hs hw h1, evAsg he.ev hg.ev⟩
def sSet (i : Nat) (a : Se) : Ss := fun ρ ws => (a ρ ws).bind fun d ws1 => .ok (ρ.set i (some d), .nx) ws1
theorem evSet {i : Nat} (he : EvE K E te se) : EvS K E (tAsg te (gName i)) (sSet i se) := fun ρ ws G H as σ D W S P => he ρ ws G H as σ _ W S (PostS.bind P fun d ws1 v G1 H1 as1 r1 W1 rx P1 => P1 G1 H1 as1 _ Rch.refl W1 ((S.up r1.pre r1.up).set rx))
theorem as_set (i : Nat) {x : Str} {pos' : Pos} (hN : X.N.Nodup) (he : AE K X E e te se) (hi : X.N[i]? = some x := by rfl) (hx : Loc X.env.scope x := by first | exact .inl rfl | exact .inr rfl)
    (hs : swapsWith e (some (.Name x pos')) pos.line X.env = pure false := by rfl) (hf : X.fn x = true ∨ X.env.scope.names.lookup x = some .local := by first | exact .inl rfl | exact .inr rfl) : AS K X E (.Assign [.Name x pos'] e pos) (tAsg te (gName i)) (sSet i se) :=
  ⟨he.hK, ps_set hN hi hx he.pe hs hf, evSet he.ev⟩
def sPar (is : List Nat) (a : Sa) : Ss := fun ρ ws => (a ρ ws).bind fun ds ws1 => match is, ds with
  | [i, j], [d, e] => .ok ((ρ.set i (some d)).set j (some e), .nx) ws1
  | [i, j, k], [d, e, f] => .ok (((ρ.set i (some d)).set j (some e)).set k (some f), .nx) ws1
  | _, _ => .bad
theorem as_par (i j : Nat) {x y : Str} {a b : Expr} {ta : TA} {sa : Sa} {px py pt : Pos} {kt k2 pt2} (hN : X.N.Nodup) (ha : AA K X E [a, b] ta sa) (hij : i ≠ j := by decide) (hc : X.calm = true := by rfl) (hi : X.N[i]? = some x := by rfl) (hj : X.N[j]? = some y := by rfl)
    (hx : X.env.scope.names.lookup x = some .local := by rfl) (hy : X.env.scope.names.lookup y = some .local := by rfl)
    (hw : swappedStores [.Tuple [.Name x px, .Name y py] kt pt] (.Tuple [a, b] k2 pt2) X.env = pure (some [x, y]) := by rfl)
    (hs : swapsWithSole [.Tuple [.Name x px, .Name y py] kt pt] (.Tuple [a, b] k2 pt2) pos.line X.env = pure false := by rfl) :
    AS K X E (.Assign [.Tuple [.Name x px, .Name y py] kt pt] (.Tuple [a, b] k2 pt2) pos) (tPar i j ta) (sPar [i, j] sa) := by
  refine ⟨ha.hK, ps_par hc hN hi hj hij hx hy ha.pe hw hs, fun ρ ws G H as σ D W S P => ha.ev ρ ws G H as σ _ W S (PostS.bind P fun ds ws1 vs G1 H1 as1 r1 W1 rx P1 => ?_)⟩
  split at P1
  · rename_i i' j' d e h1
    cases h1
    obtain ⟨v, vs1, e1, e2, e3⟩ := rx.uncons
    obtain ⟨u, vs2, f1, f2, f3⟩ := e3.uncons
    rw [f3.unnil] at f1
    subst f1 e1
    exact ⟨v, u, rfl, P1 G1 H1 as1 _ Rch.refl W1 (((S.up r1.pre r1.up).set e2).set f2)⟩
  · rename_i h1
    cases h1
  · exact False.elim P1
theorem as_par3 (i j l : Nat) {x y z : Str} {a b c : Expr} {ta : TA} {sa : Sa} {px py pz pt : Pos} {kt k2 pt2} (hN : X.N.Nodup) (ha : AA K X E [a, b, c] ta sa) (hij : i ≠ j := by decide) (hil : i ≠ l := by decide) (hjl : j ≠ l := by decide) (hc : X.calm = true := by rfl) (hi : X.N[i]? = some x := by rfl) (hj : X.N[j]? = some y := by rfl) (hl : X.N[l]? = some z := by rfl)
    (hx : X.env.scope.names.lookup x = some .local := by rfl) (hy : X.env.scope.names.lookup y = some .local := by rfl) (hz : X.env.scope.names.lookup z = some .local := by rfl)
    (hw : swappedStores [.Tuple [.Name x px, .Name y py, .Name z pz] kt pt] (.Tuple [a, b, c] k2 pt2) X.env = pure (some [x, y, z]) := by rfl)
    (hs : swapsWithSole [.Tuple [.Name x px, .Name y py, .Name z pz] kt pt] (.Tuple [a, b, c] k2 pt2) pos.line X.env = pure false := by rfl) :
    AS K X E (.Assign [.Tuple [.Name x px, .Name y py, .Name z pz] kt pt] (.Tuple [a, b, c] k2 pt2) pos) (tPar3 i j l ta) (sPar [i, j, l] sa) := by
  refine ⟨ha.hK, ps_par3 hc hN hi hj hl hij hil hjl hx hy hz ha.pe hw hs, fun ρ ws G H as σ D W S P => ha.ev ρ ws G H as σ _ W S (PostS.bind P fun ds ws1 vs G1 H1 as1 r1 W1 rx P1 => ?_)⟩
  split at P1
  · rename_i h1
    cases h1
  · rename_i i' j' k' d e f h1
    cases h1
    obtain ⟨v, vs1, e1, e2, e3⟩ := rx.uncons
    obtain ⟨u, vs2, f1, f2, f3⟩ := e3.uncons
    obtain ⟨w, vs3, g1, g2, g3⟩ := f3.uncons
    rw [g3.unnil] at g1
    subst g1 f1 e1
    exact ⟨v, u, w, rfl, P1 G1 H1 as1 _ Rch.refl W1 ((((S.up r1.pre r1.up).set e2).set f2).set g2)⟩
  · exact False.elim P1
/-- x += e -/
def sAug (i : Nat) (f : D → D → Option D) (a : Se) : Ss := fun ρ ws => match ρ[i]? with
  | some (some x) => (a ρ ws).bind fun y ws1 => (R.ofO (f x y) ws1).bind fun z ws2 => .ok (ρ.set i (some z), .nx) ws2
  | _ => .bad
def gI (g : Int → Int → Int) : D → D → Option D := fun x y => match x, y with
  | .int i, .int j => some (.int (g i j))
  | _, _ => none
theorem as_aug (i : Nat) {x : Str} {pos' : Pos} {op : Operator} {f : Int → Int → Int} (hN : X.N.Nodup) (ho : PIp X op (ipI f)) (he : AE K X E e te se) (hi : X.N[i]? = some x := by rfl) (hx : Loc X.env.scope x := by first | exact .inl rfl | exact .inr rfl)
    (hf : X.fn x = true ∨ X.env.scope.names.lookup x = some .local := by first | exact .inl rfl | exact .inr rfl) : AS K X E (.AugAssign (.Name x pos') op e pos) (tAug i te (ipI f)) (sAug i (gI f) se) := by
  refine ⟨he.hK, ps_aug hN hi hx he.pe ho hf, fun ρ ws G H as σ D W S P => ?_⟩
  unfold sAug at P
  cases q : ρ[i]? with
  | none => rw [q] at P; exact False.elim P
  | some o =>
    cases o with
    | none => rw [q] at P; exact False.elim P
    | some d =>
      rw [q] at P
      obtain ⟨v, e1, e2⟩ := S.2 i d q
      refine ⟨v, e1, he.ev ρ ws G H as σ _ W S (PostS.bind P fun y ws1 u G1 H1 as1 r1 W1 rx P1 => ?_)⟩
      cases ef : gI f d y with
      | none => rw [ef] at P1; exact False.elim P1
      | some z =>
        rw [ef, R.ofO_some, R.bind_ok] at P1
        unfold gI at ef
        split at ef
        · cases ef
          simp only [Rep] at rx e2
          exact ⟨_, _, e2, rx, P1 G1 H1 as1 _ Rch.refl W1 ((S.up r1.pre r1.up).set (by simp [Rep]))⟩
        · cases ef
/-! ### fields stored -/
theorem Reps.setR {as : List Addr} {G : Hp} {d : D} {v : V} (r : Rep K as G d v) : ∀ {ds : List D} {vs : List V} {i : Nat}, Reps K as G ds vs → Reps K as G (ds.set i d) (vs.set i v)
  | [], vs, i, h => by
    rw [h.unnil]
    exact Reps.nil
  | d' :: ds, vs, 0, h => by
    obtain ⟨u, us, e, h1, h2⟩ := h.uncons
    rw [e]
    exact Reps.cons r h2
  | d' :: ds, vs, i + 1, h => by
    obtain ⟨u, us, e, h1, h2⟩ := h.uncons
    rw [e]
    exact Reps.cons h1 (Reps.setR r h2)
variable {o : Expr} {to : TE} {so : Se} {c f : Str}
/-- self.f = e, a new field -/
def sNewF (c f : Str) (o a : Se) : Ss := fun ρ ws => (a ρ ws).bind fun y ws1 => (o ρ ws1).bind fun x ws2 => match x with
  | .cell n => (match ws2[n]? with
    | some (.ins c' ks l) => if c' = c ∧ f ∉ ks ∧ ks.length < 100 then .ok (ρ, .nx) (ws2.set n (.ins c' (ks ++ [f]) (l ++ [y]))) else .bad
    | _ => .bad)
  | _ => .bad
/-- self.f = e, the i-th field once more -/
def sSetF (c f : Str) (i : Nat) (o a : Se) : Ss := fun ρ ws => (a ρ ws).bind fun y ws1 => (o ρ ws1).bind fun x ws2 => match x with
  | .cell n => (match ws2[n]? with
    | some (.ins c' ks l) => if c' = c ∧ okI ks f i = true ∧ ks.length < 100 then .ok (ρ, .nx) (ws2.set n (.ins c' ks (l.set i y))) else .bad
    | _ => .bad)
  | _ => .bad
theorem as_newF {pos' : Pos} (ho : AE K X E o to so) (he : AE K X E e te se) (hc : Cls K (He.ga K c)) (hn : NoAttr K (He.ga K c) f) (hs : swapsWith e (some (.Attribute o f pos')) pos.line X.env = pure false := by rfl) :
    AS K X E (.Assign [.Attribute o f pos'] e pos) (L2.sFld K to te f) (sNewF c f so se) := by
  have e0 := ho.hK
  subst e0
  refine ⟨rfl, ps_fld ho.pe he.pe hs, fun ρ ws G H as σ D W S P => he.ev ρ ws G H as σ _ W S (PostS.bind P fun y ws1 v G1 H1 as1 r1 W1 ry P1 => ?_)⟩
  refine ho.ev ρ ws1 G1 H1 as1 σ _ W1 (S.up r1.pre r1.up) (PostS.bind P1 fun x ws2 u G2 H2 as2 r2 W2 rx P2 => ?_)
  have S2 := (S.up r1.pre r1.up).up r2.pre r2.up
  have ry2 := ry.up r2.pre r2.up
  cases x with
  | cell n =>
    dsimp only at P2
    cases q : ws2[n]? with
    | none => rw [q] at P2; exact False.elim P2
    | some ce =>
      rw [q] at P2
      cases ce with
      | ins c' ks l =>
        simp only at P2
        split at P2
        · rename_i h
          obtain ⟨h1, h2, h3⟩ := h
          subst h1
          obtain ⟨a, ob, e1, e2, e3, dx, vs, e4, e5, e6⟩ := W2.cellAt q (fun z => by cases z) rx
          subst e4
          have hl : ks.length = vs.length := by rw [e5, e6.len]
          refine ⟨a, _, dx, _, e1, e3, hc, hn, ?_, ?_⟩
          · rw [List.length_zip]
            omega
          · refine P2 G2 _ as2 σ (Rch.put (List.mem_of_getElem? e2)) (W2.put e2 q (fun z => by cases z) ⟨dx, vs ++ [v], by rw [putF_new h2 hl], ?_, e6.app (Reps.one ry2)⟩) S2
            rw [List.length_append, List.length_append, e5] <;> rfl
        · exact False.elim P2
      | _ => exact False.elim P2
  | _ => exact False.elim P2
theorem as_setF (i : Nat) {pos' : Pos} (ho : AE K X E o to so) (he : AE K X E e te se) (hc : Cls K (He.ga K c)) (hn : NoAttr K (He.ga K c) f) (hs : swapsWith e (some (.Attribute o f pos')) pos.line X.env = pure false := by rfl) :
    AS K X E (.Assign [.Attribute o f pos'] e pos) (L2.sFld K to te f) (sSetF c f i so se) := by
  have e0 := ho.hK
  subst e0
  refine ⟨rfl, ps_fld ho.pe he.pe hs, fun ρ ws G H as σ D W S P => he.ev ρ ws G H as σ _ W S (PostS.bind P fun y ws1 v G1 H1 as1 r1 W1 ry P1 => ?_)⟩
  refine ho.ev ρ ws1 G1 H1 as1 σ _ W1 (S.up r1.pre r1.up) (PostS.bind P1 fun x ws2 u G2 H2 as2 r2 W2 rx P2 => ?_)
  have S2 := (S.up r1.pre r1.up).up r2.pre r2.up
  have ry2 := ry.up r2.pre r2.up
  cases x with
  | cell n =>
    dsimp only at P2
    cases q : ws2[n]? with
    | none => rw [q] at P2; exact False.elim P2
    | some ce =>
      rw [q] at P2
      cases ce with
      | ins c' ks l =>
        simp only at P2
        split at P2
        · rename_i h
          obtain ⟨h1, h2, h3⟩ := h
          subst h1
          obtain ⟨a, ob, e1, e2, e3, dx, vs, e4, e5, e6⟩ := W2.cellAt q (fun z => by cases z) rx
          subst e4
          have hl : ks.length = vs.length := by rw [e5, e6.len]
          refine ⟨a, _, dx, _, e1, e3, hc, hn, ?_, ?_⟩
          · rw [List.length_zip]
            omega
          · exact P2 G2 _ as2 σ (Rch.put (List.mem_of_getElem? e2)) (W2.put e2 q (fun z => by cases z) ⟨dx, vs.set i v, by rw [putF_old h2 hl], by rw [List.length_set, e5], e6.setR ry2⟩) S2
        · exact False.elim P2
      | _ => exact False.elim P2
  | _ => exact False.elim P2
end
/-! ### loops -/
/-- the list that is walked is still so -/
def SrcOk (src : Option Nat) (ds : List D) (ws : List Ce) : Prop := match src with
  | none => True
  | some n => ws[n]? = some (.lst ds)
/-- what is walked: J yields what ds tell, while the store says so -/
structure Wk (K : PySem.W.Frag) (as : List Addr) (G : Hp) (ds : List D) (src : Option Nat) (J : It) : Prop where
  go : ∀ i H as2 G2 ws2, as <+: as2 → Same G G2 → Wd K G2 H as2 ws2 → SrcOk src ds ws2 → i < ds.length → J.go i H
  stop : ∀ H as2 G2 ws2, as <+: as2 → Same G G2 → Wd K G2 H as2 ws2 → SrcOk src ds ws2 → J.stop ds.length H
  yld : ∀ i H x H' as2 G2 ws2, as <+: as2 → Same G G2 → Wd K G2 H as2 ws2 → SrcOk src ds ws2 → i < ds.length → J.yld i H x H' → ∃ d G3, ds[i]? = some d ∧ Rch G2 H as2 G3 H' as2 ∧ Wd K G3 H' as2 ws2 ∧ Rep K as2 G3 d x
abbrev Si := List (Option D) → List Ce → R (List D × Option Nat)
def relI (K : PySem.W.Frag) : List Addr → Hp → List D × Option Nat → It → Prop := fun as G a J => Wk K as G a.1 a.2 J
def EvI (K : PySem.W.Frag) (E : XK) (wi : TI) (f : Si) : Prop := ∀ ρ ws G H as σ Q, Wd K G H as ws → SRep K as G ρ σ → Post K E (relI K) G H as (f ρ ws) Q → wi σ H Q
structure AI (K : PySem.W.Frag) (X : Cx) (E : XK) (tg iter : Expr) (wi : TI) (f : Si) : Prop where
  hK : X.K = K
  pe : PI X tg iter wi
  ev : EvI K E wi f
instance {src : Option Nat} {ds : List D} {ws : List Ce} : Decidable (SrcOk src ds ws) := match src with
  | none => .isTrue trivial
  | some n => inferInstanceAs (Decidable (ws[n]? = some (.lst ds)))
def loopFor (ds : List D) (src : Option Nat) (t : Tg) (body : Ss) : List D → List (Option D) → List Ce → R (List (Option D) × Fl)
  | [], ρ, ws => if SrcOk src ds ws then .ok (ρ, .nx) ws else .bad
  | d :: rest, ρ, ws => if SrcOk src ds ws then (t d ρ ws).bind fun ρ1 ws1 => (body ρ1 ws1).bind fun r ws2 => match r with
      | (ρ2, .nx) => loopFor ds src t body rest ρ2 ws2
      | (ρ2, .ct) => loopFor ds src t body rest ρ2 ws2
      | (ρ2, .bk) => .ok (ρ2, .nx) ws2
      | (ρ2, .rt v) => .ok (ρ2, .rt v) ws2
    else .bad
def sFor (it : Si) (t : Tg) (body : Ss) : Ss := fun ρ ws => (it ρ ws).bind fun r ws1 => loopFor r.1 r.2 t body r.1 ρ ws1
section
variable {K : PySem.W.Frag} {X : Cx} {E : XK} {tg iter : Expr} {body : List Stmt} {wi : TI} {g : TG} {tb : TS} {f : Si} {sl : List Nat} {t : Tg} {s : Ss} {pos : Pos}
theorem evFor (hi : EvI K E wi f) (hg : EvG K E g sl t) (hb : EvS K E tb s) : EvS K E (tFor wi g tb) (sFor f t s) := fun ρ ws G H as σ D W S P => by
  refine hi ρ ws G H as σ _ W S (PostS.bind P fun r ws1 J G1 H1 as1 r1 W1 wk P1 => ?_)
  obtain ⟨ds, src⟩ := r
  have wk : Wk K as1 G1 ds src J := wk
  refine ⟨fun i m σ' H' => m = ds.length - i ∧ i ≤ ds.length ∧ ∃ ρ' ws' G' as', Rch G1 H1 as1 G' H' as' ∧ Wd K G' H' as' ws' ∧ SRep K as' G' ρ' σ' ∧ PostS K E G' H' as' (loopFor ds src t s (ds.drop i) ρ' ws') D,
    ⟨_, rfl, Nat.zero_le _, ρ, ws1, G1, as1, Rch.refl, W1, S.up r1.pre r1.up, P1⟩, ?_⟩
  rintro i m σ' H' ⟨rfl, hle, ρ', ws', G', as', rch, W', S', P'⟩
  by_cases hlt : i < ds.length
  · refine .inr ?_
    have hd : ds.drop i = ds[i] :: ds.drop (i + 1) := List.drop_eq_getElem_cons hlt
    rw [hd] at P'
    unfold loopFor at P'
    split at P'
    · rename_i hs
      refine ⟨wk.go i H' as' G' ws' rch.pre rch.up W' hs hlt, fun σ2 H2 => ∃ ρ2 ws2 G2 as2, Rch G1 H1 as1 G2 H2 as2 ∧ Wd K G2 H2 as2 ws2 ∧ SRep K as2 G2 ρ2 σ2 ∧ PostS K E G2 H2 as2 (loopFor ds src t s (ds.drop (i + 1)) ρ2 ws2) D, fun σ2 H2 h => ⟨ds.length - (i + 1), by omega, rfl, hlt, h⟩, fun x H2 hy => ?_⟩
      obtain ⟨d, G3, hd', r3, W3, rx⟩ := wk.yld i H' x H2 as' G' ws' rch.pre rch.up W' hs hlt hy
      rw [List.getElem?_eq_getElem hlt] at hd'
      cases hd'
      refine hg _ x ρ' ws' G3 H2 as' σ' _ W3 (S'.up r3.pre r3.up) rx (PostS.bind (PostS.from P' r3) fun ρ1 ws4 σ4 G4 H4 as4 r4 W4 S4 P4 => ?_)
      refine hb ρ1 ws4 G4 H4 as4 σ4 _ W4 S4.1 ?_
      have r04 := (rch.trans r3).trans r4
      cases e : s ρ1 ws4 with
      | ok a ws5 =>
        rw [e] at P4
        obtain ⟨ρ5, fl⟩ := a
        cases fl with
        | nx => exact fun G5 H5 as5 σ5 r5 W5 S5 => ⟨ρ5, ws5, G5, as5, r04.trans r5, W5, S5, PostS.from P4 r5⟩
        | ct => exact fun G5 H5 as5 σ5 r5 W5 S5 => ⟨ρ5, ws5, G5, as5, r04.trans r5, W5, S5, PostS.from P4 r5⟩
        | bk => exact fun G5 H5 as5 σ5 r5 W5 S5 => P4 G5 H5 as5 σ5 r5 W5 S5
        | rt v => exact P4
      | ex x' ws5 =>
        rw [e] at P4
        exact P4
      | bad =>
        rw [e] at P4
        exact False.elim P4
    · exact False.elim P'
  · have e : i = ds.length := by omega
    subst e
    rw [List.drop_length] at P'
    unfold loopFor at P'
    split at P'
    · rename_i hs
      exact .inl ⟨wk.stop H' as' G' ws' rch.pre rch.up W' hs, P' G' H' as' σ' Rch.refl W' S'⟩
    · exact False.elim P'
theorem as_for (hp : PassesOwn (model X.prog X.w) X.A X.env X.xe) (hi : AI K X E tg iter wi f) (hg : AG K X E tg g sl t) (hb : ASs K X E body tb s) (hc : X.calm = true := by rfl)
    (hs : ∀ x, foldedSetIterable iter X.env x = pure x := by intro _; rfl) : AS K X E (.For tg iter body [] pos) (tFor wi g tb) (sFor f t s) := ⟨hi.hK, ps_for hp hc hi.pe hg.pe hb.pe hs, evFor hi.ev hg.ev hb.ev⟩
/-! ### while, at most so many turns -/
def loopW (c : Sb) (body : Ss) : Nat → List (Option D) → List Ce → R (List (Option D) × Fl)
  | 0, _, _ => .bad
  | n + 1, ρ, ws => (c ρ ws).bind fun b ws1 => if b = true then (body ρ ws1).bind fun r ws2 => match r with
      | (ρ2, .nx) => loopW c body n ρ2 ws2
      | (ρ2, .ct) => loopW c body n ρ2 ws2
      | (ρ2, .bk) => .ok (ρ2, .nx) ws2
      | (ρ2, .rt v) => .ok (ρ2, .rt v) ws2
    else .ok (ρ, .nx) ws1
def sWhile (n : Nat) (c : Sb) (body : Ss) : Ss := fun ρ ws => loopW c body n ρ ws
variable {c : Expr} {tc : TT} {ba : Sb}
theorem evWhile {n : Nat} (hc : EvT K E tc ba) (hb : EvS K E tb s) : EvS K E (tWhile tc tb) (sWhile n ba s) := fun ρ ws G H as σ D W S P => by
  refine ⟨fun m σ' H' => ∃ ρ' ws' G' as', Rch G H as G' H' as' ∧ Wd K G' H' as' ws' ∧ SRep K as' G' ρ' σ' ∧ PostS K E G' H' as' (loopW ba s m ρ' ws') D, ⟨n, ρ, ws, G, as, Rch.refl, W, S, P⟩, ?_⟩
  rintro m σ' H' ⟨ρ', ws', G', as', rch, W', S', P'⟩
  cases m with
  | zero => exact False.elim P'
  | succ m =>
    unfold loopW at P'
    refine hc ρ' ws' G' H' as' σ' _ W' S' (PostS.bind P' fun b ws1 b' G1 H1 as1 r1 W1 rb P1 => ?_)
    cases rb
    cases b with
    | true =>
      rw [if_pos rfl] at P1 ⊢
      refine ⟨fun σ2 H2 => ∃ ρ2 ws2 G2 as2, Rch G H as G2 H2 as2 ∧ Wd K G2 H2 as2 ws2 ∧ SRep K as2 G2 ρ2 σ2 ∧ PostS K E G2 H2 as2 (loopW ba s m ρ2 ws2) D, fun σ2 H2 h => ⟨m, Nat.lt_succ_self _, h⟩, ?_⟩
      refine hb ρ' ws1 G1 H1 as1 σ' _ W1 (S'.up r1.pre r1.up) ?_
      cases e : s ρ' ws1 with
      | ok a ws5 =>
        rw [e] at P1
        obtain ⟨ρ5, fl⟩ := a
        cases fl with
        | nx => exact fun G5 H5 as5 σ5 r5 W5 S5 => ⟨ρ5, ws5, G5, as5, (rch.trans r1).trans r5, W5, S5, PostS.from P1 r5⟩
        | ct => exact fun G5 H5 as5 σ5 r5 W5 S5 => ⟨ρ5, ws5, G5, as5, (rch.trans r1).trans r5, W5, S5, PostS.from P1 r5⟩
        | bk => exact fun G5 H5 as5 σ5 r5 W5 S5 => P1 G5 H5 as5 σ5 r5 W5 S5
        | rt v => exact P1
      | ex x' ws5 =>
        rw [e] at P1
        exact P1
      | bad =>
        rw [e] at P1
        exact False.elim P1
    | false =>
      rw [if_neg Bool.false_ne_true] at P1 ⊢
      exact P1 G1 H1 as1 σ' Rch.refl W1 (S'.up r1.pre r1.up)
theorem as_while (n : Nat) (hp : PassesOwn (model X.prog X.w) X.A X.env X.xe) (hc : AT K X E c tc ba) (hb : ASs K X E body tb s) : AS K X E (.While c body [] pos) (tWhile tc tb) (sWhile n ba s) := ⟨hc.hK, ps_while hp hc.pe hb.pe, evWhile hc.ev hb.ev⟩
end
/-! ### comprehensions -/
/-- nothing is raised here -/
def nox {α : Type} (r : R α) : R α := match r with
  | .ex _ _ => .bad
  | r => r
theorem nox_post {α β : Type} {K : PySem.W.Frag} {E E' : XK} {rel : List Addr → Hp → α → β → Prop} {G H : Hp} {as : List Addr} {out : R α} {Q : β → Hp → Prop} (h : Post K E rel G H as (nox out) Q) : Post K E' rel G H as out Q := by
  cases out with
  | ok a ws => exact h
  | ex e ws => exact False.elim h
  | bad => exact h
def loopLc (ds : List D) (src : Option Nat) (t : Tg) (c : Sb) (el : Se) (ρ : List (Option D)) : List D → List D → List Ce → R (List D)
  | [], acc, ws => if SrcOk src ds ws then .ok acc ws else .bad
  | d :: rest, acc, ws => if SrcOk src ds ws then (nox (t d ρ ws)).bind fun ρ1 ws1 => (nox (c ρ1 ws1)).bind fun b ws2 =>
      if b = true then (nox (el ρ1 ws2)).bind fun y ws3 => if acc.length < 100000 then loopLc ds src t c el ρ rest (acc ++ [y]) ws3 else .bad
      else loopLc ds src t c el ρ rest acc ws2
    else .bad
def sLcG (fz : List D → List Ce → R D) (vs : List Nat) (it : Si) (t : Tg) (c : Sb) (el : Se) : Se := fun ρ ws => (it ρ ws).bind fun r ws1 => (loopLc r.1 r.2 t c el (wipeD ρ vs) r.1 [] ws1).bind fz
/-- a new list that is never written any more -/
def fzL : List D → List Ce → R D := fun l ws => .ok (.lst l) ws
/-- a new list that will be written -/
def fzM : List D → List Ce → R D := fun l ws => .ok (.cell ws.length) (ws ++ [.lst l])
def sLc (vs : List Nat) (it : Si) (t : Tg) (c : Sb) (el : Se) : Se := sLcG fzL vs it t c el
def sLcM (vs : List Nat) (it : Si) (t : Tg) (c : Sb) (el : Se) : Se := sLcG fzM vs it t c el
def sYes : Sb := fun _ ws => .ok true ws
/-- an object apart is written -/
theorem Wd.side {K : PySem.W.Frag} {G H : Hp} {as : List Addr} {ws : List Ce} {p : Addr} {o : HO} (W : Wd K G H as ws) (hg : G p = none) (hp : p ∉ as) (hq : NoTab H p) (ho : ∀ ps, o ≠ .tbl ps := by intro _ z; cases z) : Wd K G (upd H p o) as ws where
  le := fun b u e => by
    rw [upd_ne (fun z => by rw [z, hg] at e; cases e)]
    exact W.le _ _ e
  len := W.len
  nd := W.nd
  out := fun a ha => ⟨(W.out a ha).1, (W.out a ha).2.upd ho⟩
  at_ := fun i c a e e' => by
    rcases W.at_ i c a e e' with q | ⟨o', q, r⟩
    · exact .inl q
    · refine .inr ⟨o', ?_, r⟩
      rw [upd_ne (fun z => hp (by rw [← z]; exact List.mem_of_getElem? e'))]
      exact q
  tb := tabs_upd W.tb hq
  ng := W.ng
theorem Rch.side {G H G1 H1 : Hp} {as as1 : List Addr} {p : Addr} {o : HO} (r : Rch G H as G1 H1 as1) (h : H p = none) (ho : ∀ ps, o ≠ .tbl ps := by intro _ z; cases z) : Rch G H as G1 (upd H1 p o) as1 where
  up := r.up
  pre := r.pre
  fr := fun b u hb e k => by
    rw [upd_ne (ne_of_none e h)]
    exact r.fr b u hb e k
  nw := r.nw
  fs := r.fs
  th := fun b hb => (r.th b hb).upd ho
/-- an object apart is never written any more -/
theorem Wd.freeze {K : PySem.W.Frag} {G H : Hp} {as : List Addr} {ws : List Ce} {p : Addr} {o : HO} (W : Wd K G H as ws) (hp : p ∉ as) (e : H p = some o) (hg : G p = none) (ho : ∀ ps, o ≠ .tbl ps := by intro _ z; cases z) : Wd K (upd G p o) H as ws where
  le := fun b u q => by
    by_cases hb : b = p
    · rw [hb, upd_same] at q
      rw [hb, e]
      exact q
    · rw [upd_ne hb] at q
      exact W.le _ _ q
  len := W.len
  nd := W.nd
  out := fun a ha => by
    have q := W.out a ha
    rw [upd_ne (fun z => hp (by rw [← z]; exact ha))]
    exact q
  at_ := fun i c a e1 e2 => by
    rcases W.at_ i c a e1 e2 with q | ⟨o', q, r⟩
    · exact .inl q
    · refine .inr ⟨o', q, r.up (List.prefix_refl _) fun b u z => ?_⟩
      rw [upd_ne (fun y => by rw [y, hg] at z; cases z)]
      exact z
  tb := W.tb
  ng := fun b ps z => by
    by_cases hb : b = p
    · rw [hb, upd_same] at z
      exact ho ps (Option.some.inj z)
    · rw [upd_ne hb] at z
      exact W.ng _ _ z
theorem Rch.freeze {G H G1 H1 : Hp} {as as1 : List Addr} {p : Addr} {o : HO} (r : Rch G H as G1 H1 as1) (h : H p = none) (hg : G1 p = none) : Rch G H as (upd G1 p o) H1 as1 where
  up := fun b u e => by
    have q := r.up b u e
    rw [upd_ne (fun z => by rw [z, hg] at q; cases q)]
    exact q
  pre := r.pre
  fr := r.fr
  nw := fun b hb e => by
    rw [upd_ne (fun z => hb.ne (by rw [z]; exact h))]
    exact r.nw b hb e
  fs := r.fs
  th := r.th
/-- an object apart becomes a mutable object of the store -/
theorem Wd.adopt {K : PySem.W.Frag} {G H : Hp} {as : List Addr} {ws : List Ce} {p : Addr} {o : HO} {c : Ce} (W : Wd K G H as ws) (hg : G p = none) (hp : p ∉ as) (hq : NoTab H p) (r : RepC K (as ++ [p]) G c o) (ho : ∀ ps, o ≠ .tbl ps := by intro _ z; cases z) : Wd K G (upd H p o) (as ++ [p]) (ws ++ [c]) where
  le := (W.side hg hp hq ho).le
  len := by rw [List.length_append, List.length_append, W.len] <;> rfl
  nd := by
    refine List.nodup_append.mpr ⟨W.nd, by simp, fun a ha b hb => ?_⟩
    rw [List.mem_singleton.mp hb]
    exact fun z => hp (by rw [← z]; exact ha)
  out := fun a ha => by
    rcases List.mem_append.mp ha with q | q
    · exact (W.side hg hp hq ho).out a q
    · rw [List.mem_singleton.mp q]
      exact ⟨hg, o, upd_same, ho⟩
  at_ := fun i c' a e e' => by
    by_cases hi : i < ws.length
    · rw [List.getElem?_append_left hi] at e
      rw [List.getElem?_append_left (by rw [W.len]; exact hi)] at e'
      rcases (W.side (o := o) hg hp hq ho).at_ i c' a e e' with q | ⟨o', q, r'⟩
      · exact .inl q
      · exact .inr ⟨o', q, r'.up (prefix_snoc _ _) (Same.refl _)⟩
    · have hi' : i = ws.length := by
        have := (List.getElem?_eq_some_iff.mp e).1
        rw [List.length_append, List.length_singleton] at this
        omega
      subst hi'
      rw [List.getElem?_append_right (Nat.le_refl _)] at e
      rw [List.getElem?_append_right (by rw [W.len] <;> exact Nat.le_refl _)] at e'
      simp [W.len] at e e'
      subst e e'
      exact .inr ⟨o, upd_same, r⟩
  tb := (W.side hg hp hq ho).tb
  ng := W.ng
theorem Rch.adopt {G H G1 H1 : Hp} {as as1 : List Addr} {p : Addr} {o : HO} (r : Rch G H as G1 H1 as1) (h : H p = none) (ho : ∀ ps, o ≠ .tbl ps := by intro _ z; cases z) : Rch G H as G1 (upd H1 p o) (as1 ++ [p]) where
  up := r.up
  pre := r.pre.trans (prefix_snoc _ _)
  fr := (r.side h ho).fr
  nw := r.nw
  fs := fun a ha => by
    rcases List.mem_append.mp ha with q | q
    · exact r.fs a q
    · rw [List.mem_singleton.mp q]
      exact .inr (not_hn h)
  th := (r.side h ho).th
theorem Post.bind0 {K : PySem.W.Frag} {E : XK} {α β α' β' : Type} {rel : List Addr → Hp → α → β → Prop} {rel' : List Addr → Hp → α' → β' → Prop} {G0 H0 G H : Hp} {as0 as : List Addr} {out : R α} {f : α → List Ce → R α'} {Q' : β' → Hp → Prop} (h : Post K E rel' G0 H0 as0 (out.bind f) Q')
    (r : Rch G0 H0 as0 G H as) {Q : β → Hp → Prop} (k : ∀ a ws1 b G1 H1 as1, Rch G H as G1 H1 as1 → Wd K G1 H1 as1 ws1 → rel as1 G1 a b → Post K E rel' G0 H0 as0 (f a ws1) Q' → Q b H1) : Post K E rel G H as out Q := by
  cases out with
  | ok a ws' => exact fun b G1 H1 as1 r w q => k a ws' b G1 H1 as1 r w q h
  | ex e ws' => exact Post.from (rel := rel) (α := α) (β := β) (out := .ex e ws') (Q := Q) h r
  | bad => exact h
section
variable {K : PySem.W.Frag} {X : Cx} {E : XK} {tg iter elt : Expr} {ifs : List Expr} {wi : TI} {g : TG} {tt : TT} {te : TE} {f : Si} {sl vs : List Nat} {t : Tg} {c : Sb} {el : Se} {pos : Pos}
/-- what is wanted of the new list at p -/
def PostL (K : PySem.W.Frag) (E : XK) (p : Addr) (G H : Hp) (as : List Addr) (out : R (List D)) (Q : VK) : Prop := match out with
  | .ok l ws' => ∀ av G' H' as', Rch G H as G' H' as' → Wd K G' H' as' ws' → G' p = none → p ∉ as' → H' p = some (.lst av) → Reps K as' G' l av → Q (.ref p) H'
  | .ex e ws' => PostX K E G H as e ws'
  | .bad => False
theorem PostL.bind0 {α β : Type} {rel : List Addr → Hp → α → β → Prop} {p : Addr} {G0 H0 G H : Hp} {as0 as : List Addr} {out : R α} {f : α → List Ce → R (List D)} {Q' : VK} (h : PostL K E p G0 H0 as0 (out.bind f) Q')
    (r : Rch G0 H0 as0 G H as) {Q : β → Hp → Prop} (k : ∀ a ws1 b G1 H1 as1, Rch G H as G1 H1 as1 → Wd K G1 H1 as1 ws1 → rel as1 G1 a b → PostL K E p G0 H0 as0 (f a ws1) Q' → Q b H1) : Post K E rel G H as out Q := by
  cases out with
  | ok a ws' => exact fun b G1 H1 as1 r w q => k a ws' b G1 H1 as1 r w q h
  | ex e ws' => exact Post.from (rel := rel) (α := α) (β := β) (out := .ex e ws') (Q := Q) h r
  | bad => exact h
theorem evLcG {fz : List D → List Ce → R D} (hfz : ∀ G1 H1 as1 l ws2 Q p, H1 p = none → Post K E (Rep K) G1 H1 as1 (fz l ws2) Q → PostL K E p G1 H1 as1 (.ok l ws2) Q) (hi : EvI K E wi f) (hg : EvG K E0 g sl t) (hsl : ∀ i ∈ sl, i ∈ vs) (hc : EvT K E0 tt c) (he : EvE K E0 te el) : EvE K E (tLc wi g tt te vs) (sLcG fz vs f t c el) := fun ρ ws G H as σ Q W S P => by
  refine hi ρ ws G H as σ _ W S (Post.bind P fun r ws1 J G1 H1 as1 r1 W1 wk P1 => ?_)
  obtain ⟨ds, src⟩ := r
  have wk : Wk K as1 G1 ds src J := wk
  have S1 := S.up r1.pre r1.up
  intro p hp
  have P1 : PostL K E p G1 H1 as1 (loopLc ds src t c el (wipeD ρ vs) ds [] ws1) Q := by
    have P1 : Post K E (Rep K) G1 H1 as1 ((loopLc ds src t c el (wipeD ρ vs) ds [] ws1).bind fz) Q := P1
    cases q : loopLc ds src t c el (wipeD ρ vs) ds [] ws1 with
    | ok l ws2 =>
      rw [q] at P1
      exact hfz G1 H1 as1 l ws2 Q p hp P1
    | ex e ws2 =>
      rw [q] at P1
      exact P1
    | bad =>
      rw [q] at P1
      exact P1
  have hG1 : G1 p = none := by
    cases q : G1 p with
    | none => rfl
    | some o => rw [W1.le _ _ q] at hp; cases hp
  have hA1 : p ∉ as1 := fun z => (W1.out p z).2.ne hp
  refine ⟨fun i m H' => m = ds.length - i ∧ i ≤ ds.length ∧ ∃ acc av ws' G' as', Rch G1 H1 as1 G' H' as' ∧ Wd K G' H' as' ws' ∧ G' p = none ∧ p ∉ as' ∧ H' p = some (.lst av) ∧ Reps K as' G' acc av ∧
      PostL K E p G1 H1 as1 (loopLc ds src t c el (wipeD ρ vs) (ds.drop i) acc ws') Q,
    ⟨_, rfl, Nat.zero_le _, [], [], ws1, G1, as1, Rch.refl.side hp, W1.side hG1 hA1 (.none hp), hG1, hA1, upd_same, Reps.nil, P1⟩, ?_⟩
  rintro i m H' ⟨rfl, hle, acc, av, ws', G', as', rch, W', gp, ap, hap, racc, P'⟩
  have S' := (S1.up rch.pre rch.up).wipe (vs := vs)
  by_cases hlt : i < ds.length
  · refine .inr ?_
    have hd : ds.drop i = ds[i] :: ds.drop (i + 1) := List.drop_eq_getElem_cons hlt
    rw [hd] at P'
    unfold loopLc at P'
    split at P'
    · rename_i hs
      refine ⟨wk.go i H' as' G' ws' rch.pre rch.up W' hs hlt, fun H2 => ∃ acc av ws2 G2 as2, Rch G1 H1 as1 G2 H2 as2 ∧ Wd K G2 H2 as2 ws2 ∧ G2 p = none ∧ p ∉ as2 ∧ H2 p = some (.lst av) ∧ Reps K as2 G2 acc av ∧
          PostL K E p G1 H1 as1 (loopLc ds src t c el (wipeD ρ vs) (ds.drop (i + 1)) acc ws2) Q, fun H2 h => ⟨ds.length - (i + 1), by omega, rfl, hlt, h⟩, fun x H2 hy => ?_⟩
      obtain ⟨d, G3, hd', r3, W3, rx⟩ := wk.yld i H' x H2 as' G' ws' rch.pre rch.up W' hs hlt hy
      rw [List.getElem?_eq_getElem hlt] at hd'
      cases hd'
      have keep : ∀ {G5 H5 : Hp} {as5 : List Addr}, Rch G' H' as' G5 H5 as5 → G5 p = none ∧ p ∉ as5 ∧ H5 p = some (.lst av) := by
        intro G5 H5 as5 r5
        refine ⟨r5.nw p (.of hap) gp, fun z => ?_, r5.fr p _ ap hap (by intro _ z; cases z)⟩
        rcases r5.fs p z with q | q
        · exact ap q
        · exact q (.of hap)
      refine hg _ x (wipeD ρ vs) ws' G3 H2 as' (wipe σ vs) _ W3 (S'.up r3.pre r3.up) rx (nox_post (E := E) (PostL.bind0 P' (rch.trans r3) fun ρ1 ws4 σ4 G4 H4 as4 r4 W4 S4 P4 => ?_))
      refine ⟨by rw [wipe_chg S4.2 hsl, wipe_wipe], ?_⟩
      refine hc ρ1 ws4 G4 H4 as4 σ4 _ W4 S4.1 (nox_post (E := E) (PostL.bind0 P4 ((rch.trans r3).trans r4) fun b ws5 b' G5 H5 as5 r5 W5 rb P5 => ?_))
      cases rb
      cases b with
      | true =>
        rw [if_pos rfl] at P5 ⊢
        refine he ρ1 ws5 G5 H5 as5 σ4 _ W5 (S4.1.up r5.pre r5.up) (nox_post (E := E) (PostL.bind0 P5 (((rch.trans r3).trans r4).trans r5) fun y ws6 yv G6 H6 as6 r6 W6 ry P6 => ?_))
        have r06 := ((r3.trans r4).trans r5).trans r6
        obtain ⟨k1, k2, k3⟩ := keep r06
        split at P6
        · rename_i hl
          exact ⟨av, k3, small5' (by rw [← racc.len]; exact hl), acc ++ [y], av ++ [yv], ws6, G6, as6, (rch.trans r06).side hp, W6.side k1 k2 (.of k3), k1, k2, upd_same, (racc.up r06.pre r06.up).app (Reps.one ry), P6⟩
        · exact False.elim P6
      | false =>
        rw [if_neg Bool.false_ne_true] at P5 ⊢
        have r05 := (r3.trans r4).trans r5
        obtain ⟨k1, k2, k3⟩ := keep r05
        exact ⟨acc, av, ws5, G5, as5, rch.trans r05, W5, k1, k2, k3, racc.up r05.pre r05.up, P5⟩
    · exact False.elim P'
  · have e : i = ds.length := by omega
    subst e
    rw [List.drop_length] at P'
    unfold loopLc at P'
    split at P'
    · rename_i hs
      exact .inl ⟨wk.stop H' as' G' ws' rch.pre rch.up W' hs, P' av G' H' as' rch W' gp ap hap racc⟩
    · exact False.elim P'
theorem evLc (hi : EvI K E wi f) (hg : EvG K E0 g sl t) (hsl : ∀ i ∈ sl, i ∈ vs) (hc : EvT K E0 tt c) (he : EvE K E0 te el) : EvE K E (tLc wi g tt te vs) (sLc vs f t c el) := evLcG (fun G1 H1 as1 l ws2 Q p hp P => fun av G' H' as' rch W' gp ap hap racc => by
  refine P _ _ _ as' (rch.freeze hp gp) (W'.freeze ap hap gp) ?_
  simp only [Rep]
  refine ⟨p, av, rfl, upd_same, racc.up (List.prefix_refl _) fun b u z => ?_⟩
  rw [upd_ne (fun y => by rw [y, gp] at z; cases z)]
  exact z) hi hg hsl hc he
theorem upd_self {H : Hp} {p : Addr} {o : HO} (h : H p = some o) : upd H p o = H := by
  funext b
  by_cases hb : b = p
  · rw [hb, upd_same, h]
  · rw [upd_ne hb]
theorem evLcM (hi : EvI K E wi f) (hg : EvG K E0 g sl t) (hsl : ∀ i ∈ sl, i ∈ vs) (hc : EvT K E0 tt c) (he : EvE K E0 te el) : EvE K E (tLc wi g tt te vs) (sLcM vs f t c el) := evLcG (fun G1 H1 as1 l ws2 Q p hp P => fun av G' H' as' rch W' gp ap hap racc => by
  have h1 := rch.adopt (o := .lst av) hp
  have h2 := W'.adopt (c := .lst l) (o := .lst av) gp ap (.of hap) ⟨av, rfl, racc.up (prefix_snoc _ _) (Same.refl _)⟩
  rw [upd_self hap] at h1 h2
  refine P _ _ _ _ h1 h2 ?_
  simp only [Rep]
  exact ⟨p, by rw [← W'.len]; simp, rfl⟩) hi hg hsl hc he
structure ATs (K : PySem.W.Frag) (X : Cx) (E : XK) (ifs : List Expr) (tt : TT) (f : Sb) : Prop where
  hK : X.K = K
  pe : PTs X ifs tt
  ev : EvT K E tt f
theorem ats_nil (hK : X.K = K := by rfl) : ATs K X E [] tYes sYes := ⟨hK, pts_nil, fun ρ ws G H as σ Q W S P => Post.done P W rfl⟩
theorem ats_one {e : Expr} (h : AT K X E e tt c) : ATs K X E [e] tt c := ⟨h.hK, pts_one h.pe, h.ev⟩
theorem ae_lc {scope : Scope} {own : List (Str × Nat)} (hN : X.N.Nodup) (hi : AI K X E tg iter wi f) (ok : blkC X.N X.env.scope scope own = true)
    (hg : ∀ (s : Shared) (H : Hp) (C : Addr) (cl : List (Str × Addr)) (fp : List Addr), AG K (X.blk s H scope (compEnvC scope cl C X.env) fp) E0 tg g sl t)
    (ht : ∀ (s : Shared) (H : Hp) (C : Addr) (cl : List (Str × Addr)) (fp : List Addr), ATs K (X.blk s H scope (compEnvC scope cl C X.env) fp) E0 ifs tt c)
    (he : ∀ (s : Shared) (H : Hp) (C : Addr) (cl : List (Str × Addr)) (fp : List Addr), AE K (X.blk s H scope (compEnvC scope cl C X.env) fp) E0 elt te el)
    (hsl : ∀ i ∈ sl, i ∈ own.map (·.2) := by decide) (hc : X.calm = true := by rfl) (hs : ∀ x, foldedSetIterable iter X.env x = pure x := by intro _; rfl) :
    AE K X E (.ListComp elt [⟨tg, iter, ifs, 0⟩] scope pos) (tLc wi g tt te (own.map (·.2))) (sLc (own.map (·.2)) f t c el) := by
  have e0 := hi.hK
  subst e0
  exact ⟨rfl, pe_lc hc hN hi.pe (blkOk_by ok) (fun s H C cl fp => (hg s H C cl fp).pe) (fun s H C cl fp => (ht s H C cl fp).pe) (fun s H C cl fp => (he s H C cl fp).pe) hs,
    evLc hi.ev (hg X.s_0 X.H_0 0 [] []).ev hsl (ht X.s_0 X.H_0 0 [] []).ev (he X.s_0 X.H_0 0 [] []).ev⟩
theorem ae_lcM {scope : Scope} {own : List (Str × Nat)} (hN : X.N.Nodup) (hi : AI K X E tg iter wi f) (ok : blkC X.N X.env.scope scope own = true)
    (hg : ∀ (s : Shared) (H : Hp) (C : Addr) (cl : List (Str × Addr)) (fp : List Addr), AG K (X.blk s H scope (compEnvC scope cl C X.env) fp) E0 tg g sl t)
    (ht : ∀ (s : Shared) (H : Hp) (C : Addr) (cl : List (Str × Addr)) (fp : List Addr), ATs K (X.blk s H scope (compEnvC scope cl C X.env) fp) E0 ifs tt c)
    (he : ∀ (s : Shared) (H : Hp) (C : Addr) (cl : List (Str × Addr)) (fp : List Addr), AE K (X.blk s H scope (compEnvC scope cl C X.env) fp) E0 elt te el)
    (hsl : ∀ i ∈ sl, i ∈ own.map (·.2) := by decide) (hc : X.calm = true := by rfl) (hs : ∀ x, foldedSetIterable iter X.env x = pure x := by intro _; rfl) :
    AE K X E (.ListComp elt [⟨tg, iter, ifs, 0⟩] scope pos) (tLc wi g tt te (own.map (·.2))) (sLcM (own.map (·.2)) f t c el) := by
  have e0 := hi.hK
  subst e0
  exact ⟨rfl, pe_lc hc hN hi.pe (blkOk_by ok) (fun s H C cl fp => (hg s H C cl fp).pe) (fun s H C cl fp => (ht s H C cl fp).pe) (fun s H C cl fp => (he s H C cl fp).pe) hs,
    evLcM hi.ev (hg X.s_0 X.H_0 0 [] []).ev hsl (ht X.s_0 X.H_0 0 [] []).ev (he X.s_0 X.H_0 0 [] []).ev⟩
theorem as_setLc (i : Nat) {y : Str} {py spos : Pos} {scope : Scope} {own : List (Str × Nat)} (hN : X.N.Nodup) (hi : AI K X E tg iter wi f) (ok : blkC X.N X.env.scope scope own = true)
    (hg : ∀ (s : Shared) (H : Hp) (C : Addr) (cl : List (Str × Addr)) (fp : List Addr), AG K (X.blk s H scope (compEnvC scope cl C X.env) fp) E0 tg g sl t)
    (ht : ∀ (s : Shared) (H : Hp) (C : Addr) (cl : List (Str × Addr)) (fp : List Addr), ATs K (X.blk s H scope (compEnvC scope cl C X.env) fp) E0 ifs tt c)
    (he : ∀ (s : Shared) (H : Hp) (C : Addr) (cl : List (Str × Addr)) (fp : List Addr), AE K (X.blk s H scope (compEnvC scope cl C X.env) fp) E0 elt te el)
    (hsw : swapsWith (.ListComp elt [⟨tg, iter, ifs, 0⟩] scope pos) (some (.Name y py)) spos.line X.env = pure true)
    (hsl : ∀ i ∈ sl, i ∈ own.map (·.2) := by decide) (hc : X.calm = true := by rfl) (hy : X.N[i]? = some y := by rfl) (hyl : X.env.scope.names.lookup y = some .local := by rfl) (hs : ∀ x, foldedSetIterable iter X.env x = pure x := by intro _; rfl) :
    AS K X E (.Assign [.Name y py] (.ListComp elt [⟨tg, iter, ifs, 0⟩] scope pos) spos) (tAsg (tLc wi g tt te (own.map (·.2))) (gName i)) (sSet i (sLc (own.map (·.2)) f t c el)) := by
  have e0 := hi.hK
  subst e0
  exact ⟨rfl, ps_setLc hc hN hy hyl hsw hi.pe (blkOk_by ok) (fun s H C cl fp => (hg s H C cl fp).pe) (fun s H C cl fp => (ht s H C cl fp).pe) (fun s H C cl fp => (he s H C cl fp).pe) hs,
    evSet (evLc hi.ev (hg X.s_0 X.H_0 0 [] []).ev hsl (ht X.s_0 X.H_0 0 [] []).ev (he X.s_0 X.H_0 0 [] []).ev)⟩
theorem as_setLcM (i : Nat) {y : Str} {py spos : Pos} {scope : Scope} {own : List (Str × Nat)} (hN : X.N.Nodup) (hi : AI K X E tg iter wi f) (ok : blkC X.N X.env.scope scope own = true)
    (hg : ∀ (s : Shared) (H : Hp) (C : Addr) (cl : List (Str × Addr)) (fp : List Addr), AG K (X.blk s H scope (compEnvC scope cl C X.env) fp) E0 tg g sl t)
    (ht : ∀ (s : Shared) (H : Hp) (C : Addr) (cl : List (Str × Addr)) (fp : List Addr), ATs K (X.blk s H scope (compEnvC scope cl C X.env) fp) E0 ifs tt c)
    (he : ∀ (s : Shared) (H : Hp) (C : Addr) (cl : List (Str × Addr)) (fp : List Addr), AE K (X.blk s H scope (compEnvC scope cl C X.env) fp) E0 elt te el)
    (hsw : swapsWith (.ListComp elt [⟨tg, iter, ifs, 0⟩] scope pos) (some (.Name y py)) spos.line X.env = pure true)
    (hsl : ∀ i ∈ sl, i ∈ own.map (·.2) := by decide) (hc : X.calm = true := by rfl) (hy : X.N[i]? = some y := by rfl) (hyl : X.env.scope.names.lookup y = some .local := by rfl) (hs : ∀ x, foldedSetIterable iter X.env x = pure x := by intro _; rfl) :
    AS K X E (.Assign [.Name y py] (.ListComp elt [⟨tg, iter, ifs, 0⟩] scope pos) spos) (tAsg (tLc wi g tt te (own.map (·.2))) (gName i)) (sSet i (sLcM (own.map (·.2)) f t c el)) := by
  have e0 := hi.hK
  subst e0
  exact ⟨rfl, ps_setLc hc hN hy hyl hsw hi.pe (blkOk_by ok) (fun s H C cl fp => (hg s H C cl fp).pe) (fun s H C cl fp => (ht s H C cl fp).pe) (fun s H C cl fp => (he s H C cl fp).pe) hs,
    evSet (evLcM hi.ev (hg X.s_0 X.H_0 0 [] []).ev hsl (ht X.s_0 X.H_0 0 [] []).ev (he X.s_0 X.H_0 0 [] []).ev)⟩
end
end RL
set_option Elab.async false
set_option linter.all false
set_option maxRecDepth 100000
/-! RL5: what is walked; built-ins by values; methods of lists and texts; slices; isinstance; f-strings. -/
namespace RL
open PySem PySem.Spec PyProof.Rows L2
/-! ### what is walked -/
/-- a walk over values that stand still -/
theorem wk_still {K : PySem.W.Frag} {as : List Addr} {G : Hp} {ds : List D} {vs : List V} {J : It} (rs : Reps K as G ds vs) (go : ∀ i H, i < vs.length → Same G H → J.go i H) (stop : ∀ H, Same G H → J.stop vs.length H)
    (yld : ∀ i H x H', i < vs.length → Same G H → J.yld i H x H' → H' = H ∧ vs[i]? = some x) : Wk K as G ds none J where
  go := fun i H as2 G2 ws2 hp hG W _ hi => go i H (by rw [← rs.len]; exact hi) (hG.trans W.le)
  stop := fun H as2 G2 ws2 hp hG W _ => by rw [rs.len]; exact stop H (hG.trans W.le)
  yld := fun i H x H' as2 G2 ws2 hp hG W _ hi y => by
    obtain ⟨e, hx⟩ := yld i H x H' (by rw [← rs.len]; exact hi) (hG.trans W.le) y
    subst e
    have hd : ds[i]? = some ds[i] := List.getElem?_eq_getElem hi
    obtain ⟨v, h1, h2⟩ := rs.get hd
    rw [hx] at h1
    cases h1
    exact ⟨_, G2, hd, Rch.refl, W, h2.up hp hG⟩
def itOf (ws : List Ce) : D → Option (List D × Option Nat)
  | .lst l => some (l, none)
  | .cell n => (match ws[n]? with
    | some (.lst l) => some (l, some n)
    | _ => none)
  | _ => none
def sItL (a : Se) : Si := fun ρ ws => (a ρ ws).bind fun x ws1 => R.ofO (itOf ws1 x) ws1
def sItT (a : Se) : Si := fun ρ ws => (a ρ ws).bind fun x ws1 => R.ofO ((tupOf x).map fun l => (l, none)) ws1
def intsD (lo : Int) (n : Nat) : List D := (List.range n).map fun i => .int (lo + (i : Nat))
def sItR1 (a : Sa) : Si := fun ρ ws => (a ρ ws).bind fun ds ws1 => match ds with
  | [.int j] => if -1000000 ≤ j ∧ j ≤ 1000000 then .ok (intsD 0 j.toNat, none) ws1 else .bad
  | _ => .bad
def sItR2 (a : Sa) : Si := fun ρ ws => (a ρ ws).bind fun ds ws1 => match ds with
  | [.int i, .int j] => if -1000000 ≤ i ∧ i ≤ 1000000 ∧ -1000000 ≤ j ∧ j ≤ 1000000 then .ok (intsD i (j - i).toNat, none) ws1 else .bad
  | _ => .bad
def enumD (l : List D) : List D := (List.range l.length).map fun i => .tup [.int (i : Nat), l.getD i .non]
def sItE (a : Sa) : Si := fun ρ ws => (a ρ ws).bind fun ds ws1 => match ds with
  | [.lst l] => .ok (enumD l, none) ws1
  | _ => .bad
def sItET (a : Sa) : Si := fun ρ ws => (a ρ ws).bind fun ds ws1 => match ds with
  | [.tup l] => .ok (enumD l, none) ws1
  | _ => .bad
def signsD (s : Str) : List D := s.cps.toList.map fun c => .str ⟨#[c]⟩
def sItS (a : Se) : Si := fun ρ ws => (a ρ ws).bind fun x ws1 => match x with
  | .str s => .ok (signsD s, none) ws1
  | _ => .bad
theorem intsD_len {lo : Int} {n : Nat} : (intsD lo n).length = n := by simp [intsD]
theorem intsD_get {lo : Int} {n i : Nat} (h : i < n) : (intsD lo n)[i]? = some (.int (lo + (i : Nat))) := by simp [intsD, h]
theorem enumD_len {l : List D} : (enumD l).length = l.length := by simp [enumD]
theorem enumD_get {l : List D} {i : Nat} {d : D} (h : l[i]? = some d) : (enumD l)[i]? = some (.tup [.int (i : Nat), d]) := by
  have hi := (List.getElem?_eq_some_iff.mp h).1
  simp [enumD, hi, List.getD, h]
  have := (List.getElem?_eq_some_iff.mp h).2
  exact this
/-- enumerate(t), t a tuple -/
def IteT (K : PySem.W.Frag) (a : Addr) : It where
  go := fun i H => ∃ (xs : List V) (x : V), SqT K H a xs ∧ xs[i]? = some x
  yld := fun i H v H' => ∃ T x, v = .ref T ∧ H T = none ∧ H' = upd H T (.tup [.int (i : Nat), x]) ∧ ∀ xs, SqT K H a xs → xs[i]? = some x
  stop := fun i H => ∃ xs : List V, SqT K H a xs ∧ xs.length = i
theorem meets_enum1 {v : Value} {o : Obj} {S : Heap → Prop} (B : Begins v o S) :
    Meets (Builtin.«enumerate.__new__» ⟨[.type "enumerate", v], []⟩) (fun _ R s => S s.heap ∧
      R (.ok (.ret (.ref (s.heap.push o).objs.size))) { s with heap := (s.heap.push o).push { cls := .type "enumerate", data := .fields #[.none, .bool false, .ref s.heap.objs.size, rawInt 0, .none, .none] } }) := by
  refine .of_wp fun prog w A R s h => ?_
  obtain ⟨hp, g, d, tk, os⟩ := s
  obtain ⟨h1, h⟩ := h
  have hsub := sub_enumerate
  have q1 : ∀ {A' : Around} {E : Value → Shared → Prop} {Q : Value → Shared → Prop}, Q (.ref hp.objs.size) ⟨hp.push o, g, d, tk, os⟩ → wpAny (model prog w) A' (pyIter v) Q E ⟨hp, g, d, tk, os⟩ := by
    intro A' E Q q
    exact B.iter prog w _ _ ⟨hp, g, d, tk, os⟩ _ h1 q
  wp_walk using q1
  refine wpAny_stack_any fun st => wpAny_pure ?_
  split
  · rename_i c _ _ _ _ _
    cases (c == Value.type "enumerate") <;> (wp_walk using q1; exact ⟨_, rfl, h⟩)
  · wp_walk using q1
    exact ⟨_, rfl, h⟩
theorem call_enum1 {prog : Program} {w : World} {A : Around} {E : Value → Shared → Prop} {s : Shared} {v : Value} {o : Obj} {S : Heap → Prop} {Q : Value → Shared → Prop} (B : Begins v o S) (h1 : S s.heap)
    (h : ∀ h', IsEnum h' (s.heap.objs.size + 1) s.heap.objs.size 0 .none → h'.get? s.heap.objs.size = some o → h'.objs.size = s.heap.objs.size + 2 → (∀ b x, s.heap.get? b = some x → h'.get? b = some x) → Q (.ref (s.heap.objs.size + 1)) { s with heap := h' }) :
    wpAny (model prog w) A (call (.type "enumerate") [v]) Q E s := by
  refine callType_new F.called_enumerate (by decide) (F.typeCall_enumerate_1 _) (F.newCall_enumerate_1 _) (fun obj => F.args_object_init_2 obj _) F.entry_enumerate_new (meets_enum1 B) ⟨h1, ?_⟩
  have hz : (s.heap.push o).objs.size = s.heap.objs.size + 1 := Heap.size_push ..
  show _ ∧ _
  rw [hz]
  have he : IsEnum ((s.heap.push o).push { cls := .type "enumerate", data := .fields #[.none, .bool false, .ref s.heap.objs.size, rawInt 0, .none, .none] }) (s.heap.objs.size + 1) s.heap.objs.size 0 .none := by
    have q := Heap.get?_push_size (s.heap.push o) (o := { cls := .type "enumerate", data := .fields #[.none, .bool false, .ref s.heap.objs.size, rawInt 0, .none, .none] }) rfl
    rw [hz] at q
    exact q
  exact ⟨⟨_, he, rfl⟩, h _ he (Heap.get?_push_of_some _ (Heap.get?_push_size _ B.free)) (by rw [Heap.size_push, hz]) fun b o x => Heap.get?_push_of_some _ (Heap.get?_push_of_some _ x)⟩
theorem turn_enumT {P : Program} {w : World} {K : PySem.W.Frag} {elts : List Expr} {kk : Nat} {tpos : Pos} (a e it : Addr) :
    Turn P w K (.Tuple elts kk tpos) (IteT K a) [e, it] e (fun i h => (∃ old, IsEnum h e it ((i : Nat) : Int) old) ∧ h.IsTupleIter it a i ∧ e ≠ it) where
  mem := by simp
  obj := by
    rintro i h ⟨⟨old, he⟩, ⟨o, ho, hc, hd⟩, _⟩ b hb
    rcases (show b = e ∨ b = it by simpa using hb) with z | z
    · rw [z]
      exact ⟨_, he, fun v q => nomatch q⟩
    · rw [z]
      exact ⟨o, ho, fun v q => by rw [hd] at q; cases q⟩
  keep := by
    rintro i h h' ⟨⟨old, he⟩, hi, hne⟩ k
    exact ⟨⟨old, k e (by simp) _ he⟩, hi.at fun o q => k it (by simp) o q, hne⟩
  item := by
    intro X hP hw hK hc i pins s σ H E I hf st hg
    subst hP hw hK
    obtain ⟨⟨old, he⟩, hit, hne⟩ := st
    obtain ⟨xs, x, hq, hx⟩ := hg
    obtain ⟨its, rv, p, hz⟩ := I.tuple hq
    obtain ⟨u, hu, ru⟩ := rv.get hx
    have hel : e < s.heap.objs.size := Heap.lt_size he
    have hil : it < s.heap.objs.size := by
      obtain ⟨_, q, _⟩ := hit
      exact Heap.lt_size q
    have hta : a ≠ it := fun z => by
      obtain ⟨o1, q1, c1, _⟩ := id p
      obtain ⟨o2, q2, c2, _⟩ := id hit
      rw [z, q2] at q1
      cases q1
      rw [c1] at c2
      exact absurd c2 (by decide)
    have hea : e ≠ a := fun z => by
      obtain ⟨o1, q1, c1, _⟩ := id p
      have q2 := id he
      unfold IsEnum at q2
      rw [← z, q2] at q1
      cases q1
      have c3 : Value.type "enumerate" = Value.type "tuple" := c1
      exact absurd c3 (by decide)
    have hix : i < its.toArray.size := by
      have := (List.getElem?_eq_some_iff.mp hu).1
      simpa using this
    refine wpAny_pyNext_enum_itemD (Draws.tuple (A := X.A.in1) (I.ok.hd hc) it a hta its.toArray) he ⟨hit, p⟩ hix hne (by simp [hne, hea]) (fun y h' tk hP ho hst' hT hsz hk => ?_)
    have ey : y = u := by
      have q : its.toArray[i]? = some y := hP
      have q' : its.toArray[i]? = some u := by simpa using hu
      rw [q] at q'
      exact Option.some.inj q'
    subst ey
    refine ⟨_, rfl, wpAny_letOwnedTupleGo_enum (s := { s with heap := h', toks := tk + 1 }) ho fun h'' he' sb => ?_⟩
    have hT2 : h''.get? s.heap.objs.size = some { cls := .type "tuple", data := .seq #[.int i tk, y] } := (sb.2 _ (Nat.ne_of_gt hel)).trans hT
    have new : ObjOk X.prog X.w (upd H s.heap.objs.size (.tup [.int (i : Nat), x])) h'' s.heap.objs.size (.tup [.int (i : Nat), x]) := by
      refine ⟨by show 2 ≤ sizeLine; decide, [.int i tk, y], .cons ⟨_, rfl⟩ (.cons ru .nil), ⟨_, hT2, rfl, _, rfl⟩⟩
    have I1 : Inv X pins σ (upd H s.heap.objs.size (.tup [.int (i : Nat), x])) { s with heap := h'', toks := tk + 1 } := by
      refine I.turnedNew (ch := [e, it]) (fun b ob hb q => ?_) hf (Nat.le_refl _) new
      have n1 : b ≠ e := fun z => hb (by simp [z])
      have n2 : b ≠ it := fun z => hb (by simp [z])
      exact (sb.2 b n1).trans (hk b ob n1 n2 q)
    refine ⟨.ref s.heap.objs.size, _, I1, rfl, ⟨_, x, rfl, I.hok.fresh (Nat.le_refl _), rfl, fun ys hy => ?_⟩, ⟨⟨y, ?_⟩, hst'.1.at fun o q => (sb.2 it (Ne.symm hne)).trans q, hne⟩, fun b hb => ?_⟩
    · rw [I.tuple_inj hy hq]
      exact hx
    · have e1 : ((i + 1 : Nat) : Int) = (i : Int) + 1 := by omega
      rw [e1]
      exact he'
    · have hb' : b < s.heap.objs.size := by
        rcases (show b = e ∨ b = it by simpa using hb) with z | z
        · rw [z]
          exact hel
        · rw [z]
          exact hil
      rw [upd_ne (Nat.ne_of_lt hb')]
      exact (hf b hb).1
  done := by
    intro X hP hw hK hc i pins s σ H E I hf st hg
    subst hP hw hK
    obtain ⟨⟨old, he⟩, hit, hne⟩ := st
    obtain ⟨xs, hq, hx⟩ := hg
    obtain ⟨its, rv, p, hz⟩ := I.tuple hq
    obtain ⟨f0, f1, f2, f3, f4, f5⟩ := hf it (by simp)
    have hta : a ≠ it := fun z => by
      obtain ⟨o1, q1, c1, _⟩ := id p
      obtain ⟨o2, q2, c2, _⟩ := id hit
      rw [z, q2] at q1
      cases q1
      rw [c1] at c2
      exact absurd c2 (by decide)
    have hl : i = its.toArray.size := by
      have := rv.length
      simp
      omega
    subst hl
    exact wpAny_pyNext_enum_endD (Draws.tuple (A := X.A.in1) (I.ok.hd hc) it a hta its.toArray) he ⟨hit, p⟩ fun h' eb => ⟨rfl, I.turned (t' := s.toks) (fun b o hb e => eb b o hb e) f0 f1 f3 f4 f5⟩
  self := fun A i s Q E st h => let ⟨⟨_, he⟩, _⟩ := st; wpAny_pyIter_enum he h
/-- enumerate(t) -/
def iEnumT (K : PySem.W.Frag) (ta : TA) : TI := fun σ H R => ta σ H fun vs H1 => ∃ a xs, vs = [.ref a] ∧ SqT K H1 a xs ∧ R (IteT K a) H1
theorem pi_enumT {X : Cx} {e : Expr} {ta : TA} {p pos tpos : Pos} {elts : List Expr} {kk : Nat} (hg : Gl X "enumerate") (hm : X.mg "enumerate" = none) (ha : PA X [e] ta) (hs : starEach [e] X.env = [(false, eval e X.env)] := by rfl) :
    PI X (.Tuple elts kk tpos) (.Call (.Name "enumerate" p) [e] [] pos) (iEnumT X.K ta) := by
  refine ⟨fun pins s σ H R I h => Call_ (ld_blt I hg hm boot_enumerate (PyProof.Rows.callWith_type1 (thn (ha.run pos pins s σ H _ I h) fun us s1 ⟨vs, H1, I1, r1, q1⟩ => ?_) hs rfl))⟩
  obtain ⟨a, xs, ex, hq, q⟩ := q1
  subst ex
  cases r1 with
  | cons r rr =>
    cases rr
    cases r
    obtain ⟨its, rv, p', hz⟩ := I1.tuple hq
    refine call_enum1 (begins_tuple a its.toArray) p' fun h' he ho hsz hk => wpAny_pyIter_enum he ?_
    have I2 : Inv X pins σ H1 { s1 with heap := h' } := I1.kept (t' := s1.toks) hk
    refine ⟨s1.heap.objs.size + 1, [s1.heap.objs.size + 1, s1.heap.objs.size], _, _, H1, rfl, I2, turn_enumT a (s1.heap.objs.size + 1) s1.heap.objs.size, ⟨⟨.none, he⟩, ⟨_, ho, rfl, rfl⟩, Nat.succ_ne_self _⟩, fun b hb => ?_, q⟩
    have hle : s1.heap.objs.size ≤ b := by
      rcases (show b = s1.heap.objs.size + 1 ∨ b = s1.heap.objs.size by simpa using hb) with z | z
      · exact z ▸ Nat.le_succ _
      · exact z ▸ Nat.le_refl _
    exact I1.fpOk hle (I1.hok.fresh hle)
/-! ### walks over abstract values -/
section
variable {K : PySem.W.Frag} {G H : Hp} {as : List Addr} {ws : List Ce}
theorem it_at (W : Wd K G H as ws) {x : D} {v : V} {ds : List D} {src : Option Nat} (e : itOf ws x = some (ds, src)) (r : Rep K as G x v) :
    ∃ a, v = .ref a ∧ (∃ vs, H a = some (.lst vs)) ∧ ∀ H2 as2 G2 ws2, as <+: as2 → Same G G2 → Wd K G2 H2 as2 ws2 → SrcOk src ds ws2 → ∃ vs, SqL K H2 a vs ∧ Reps K as2 G2 ds vs := by
  cases x with
  | lst l =>
    cases e
    simp only [Rep] at r
    obtain ⟨a, vs, e1, e2, e3⟩ := r
    exact ⟨a, e1, ⟨vs, W.le _ _ e2⟩, fun H2 as2 G2 ws2 hp hG W2 _ => ⟨vs, .inl (.inl (W2.le _ _ (hG _ _ e2))), e3.up hp hG⟩⟩
  | cell n =>
    simp only [itOf] at e
    cases q : ws[n]? with
    | none => rw [q] at e; cases e
    | some c =>
      rw [q] at e
      cases c with
      | lst l =>
        cases e
        obtain ⟨a, o, e1, e2, e3, vs, e4, e5⟩ := W.cellAt q (fun z => by cases z) r
        subst e4
        refine ⟨a, e1, ⟨vs, e3⟩, fun H2 as2 G2 ws2 hp hG W2 hs => ?_⟩
        rcases W2.at_ n _ a hs (prefix_get hp e2) with z | ⟨o2, f1, us, f2, f3⟩
        · cases z
        · subst f2
          exact ⟨us, .inl (.inl f1), f3⟩
      | _ => cases e
  | _ => cases e
theorem Reps.at {ds : List D} {vs : List V} {i : Nat} (r : Reps K as G ds vs) (hi : i < ds.length) : ∃ v, vs[i]? = some v ∧ Rep K as G ds[i] v := r.get (List.getElem?_eq_getElem hi)
theorem wk_list {a : Addr} {ds : List D} {src : Option Nat} (h : ∀ H2 as2 G2 ws2, as <+: as2 → Same G G2 → Wd K G2 H2 as2 ws2 → SrcOk src ds ws2 → ∃ vs, SqL K H2 a vs ∧ Reps K as2 G2 ds vs) : Wk K as G ds src (Itl K a) where
  go := fun i H2 as2 G2 ws2 hp hG W hs hi => by
    obtain ⟨vs, h1, h2⟩ := h H2 as2 G2 ws2 hp hG W hs
    obtain ⟨v, h3, _⟩ := h2.at hi
    exact ⟨vs, v, h1, h3⟩
  stop := fun H2 as2 G2 ws2 hp hG W hs => by
    obtain ⟨vs, h1, h2⟩ := h H2 as2 G2 ws2 hp hG W hs
    exact ⟨vs, h1, by rw [h2.len] <;> exact Nat.le_refl _⟩
  yld := fun i H2 x H' as2 G2 ws2 hp hG W hs hi y => by
    obtain ⟨vs, h1, h2⟩ := h H2 as2 G2 ws2 hp hG W hs
    obtain ⟨v, h3, h4⟩ := h2.at hi
    obtain ⟨e, hx⟩ := y
    have := hx vs h1
    rw [h3] at this
    cases this
    subst e
    exact ⟨_, G2, List.getElem?_eq_getElem hi, Rch.refl, W, h4⟩
theorem wk_tup {a : Addr} {ds : List D} {vs : List V} (e : G a = some (.tup vs)) (r : Reps K as G ds vs) : Wk K as G ds none (Itt K a) where
  go := fun i H2 as2 G2 ws2 hp hG W hs hi => by
    obtain ⟨v, h3, _⟩ := r.at hi
    exact ⟨vs, v, .inl (.inl (W.le _ _ (hG _ _ e))), h3⟩
  stop := fun H2 as2 G2 ws2 hp hG W hs => ⟨vs, .inl (.inl (W.le _ _ (hG _ _ e))), by rw [r.len] <;> exact Nat.le_refl _⟩
  yld := fun i H2 x H' as2 G2 ws2 hp hG W hs hi y => by
    obtain ⟨v, h3, h4⟩ := r.at hi
    obtain ⟨e', hx⟩ := y
    have := hx vs (.inl (.inl (W.le _ _ (hG _ _ e))))
    rw [h3] at this
    cases this
    subst e'
    exact ⟨_, G2, List.getElem?_eq_getElem hi, Rch.refl, W, h4.up hp hG⟩
/-- a new pair -/
theorem pair_new {as2 : List Addr} {G2 H2 H' : Hp} {ws2 : List Ce} {T : Addr} {i : Nat} {d : D} {x v : V} (W : Wd K G2 H2 as2 ws2) (hv : v = .ref T) (hT : H2 T = none) (hH : H' = upd H2 T (.tup [.int (i : Nat), x])) (r : Rep K as2 G2 d x) :
    ∃ G3, Rch G2 H2 as2 G3 H' as2 ∧ Wd K G3 H' as2 ws2 ∧ Rep K as2 G3 (.tup [.int (i : Nat), d]) v := by
  subst hv hH
  have q := (Rch.new (as := as2) (o := .tup [.int (i : Nat), x]) W.le hT)
  refine ⟨_, q, W.new hT, ?_⟩
  simp only [Rep]
  exact ⟨T, _, rfl, upd_same, Reps.cons (by simp [Rep]) (Reps.one (r.up (List.prefix_refl _) q.up))⟩
theorem wk_enumL {a : Addr} {ds : List D} {vs : List V} (e : G a = some (.lst vs)) (r : Reps K as G ds vs) : Wk K as G (enumD ds) none (Ite K a) where
  go := fun i H2 as2 G2 ws2 hp hG W hs hi => by
    rw [enumD_len] at hi
    obtain ⟨v, h3, _⟩ := r.at hi
    exact ⟨vs, v, .inl (.inl (W.le _ _ (hG _ _ e))), h3⟩
  stop := fun H2 as2 G2 ws2 hp hG W hs => ⟨vs, .inl (.inl (W.le _ _ (hG _ _ e))), by rw [enumD_len, r.len] <;> exact Nat.le_refl _⟩
  yld := fun i H2 x H' as2 G2 ws2 hp hG W hs hi y => by
    rw [enumD_len] at hi
    obtain ⟨v, h3, h4⟩ := r.at hi
    obtain ⟨T, u, e1, e2, e3, hx⟩ := y
    have := hx vs (.inl (.inl (W.le _ _ (hG _ _ e))))
    rw [h3] at this
    cases this
    obtain ⟨G3, q1, q2, q3⟩ := pair_new W e1 e2 e3 (h4.up hp hG)
    exact ⟨_, G3, enumD_get (List.getElem?_eq_getElem hi), q1, q2, q3⟩
theorem wk_enumT {a : Addr} {ds : List D} {vs : List V} (e : G a = some (.tup vs)) (r : Reps K as G ds vs) : Wk K as G (enumD ds) none (IteT K a) where
  go := fun i H2 as2 G2 ws2 hp hG W hs hi => by
    rw [enumD_len] at hi
    obtain ⟨v, h3, _⟩ := r.at hi
    exact ⟨vs, v, .inl (.inl (W.le _ _ (hG _ _ e))), h3⟩
  stop := fun H2 as2 G2 ws2 hp hG W hs => ⟨vs, .inl (.inl (W.le _ _ (hG _ _ e))), by rw [enumD_len, r.len]⟩
  yld := fun i H2 x H' as2 G2 ws2 hp hG W hs hi y => by
    rw [enumD_len] at hi
    obtain ⟨v, h3, h4⟩ := r.at hi
    obtain ⟨T, u, e1, e2, e3, hx⟩ := y
    have := hx vs (.inl (.inl (W.le _ _ (hG _ _ e))))
    rw [h3] at this
    cases this
    obtain ⟨G3, q1, q2, q3⟩ := pair_new W e1 e2 e3 (h4.up hp hG)
    exact ⟨_, G3, enumD_get (List.getElem?_eq_getElem hi), q1, q2, q3⟩
theorem wk_range {lo : Int} {n : Nat} : Wk K as G (intsD lo n) none (Itr lo n) where
  go := fun i H2 as2 G2 ws2 hp hG W hs hi => by
    rw [intsD_len] at hi
    exact hi
  stop := fun H2 as2 G2 ws2 hp hG W hs => by
    rw [intsD_len]
    exact Nat.le_refl _
  yld := fun i H2 x H' as2 G2 ws2 hp hG W hs hi y => by
    rw [intsD_len] at hi
    obtain ⟨e, hx⟩ := y
    subst e
    exact ⟨_, G2, intsD_get hi, Rch.refl, W, by simpa [Rep] using hx⟩
theorem signsD_get {s : Str} {i : Nat} {c : Nat} (h : s.cps[i]? = some c) : (signsD s)[i]? = some (.str ⟨#[c]⟩) := by
  unfold signsD
  rw [List.getElem?_map, Array.getElem?_toList, h] <;> rfl
theorem signsD_len {s : Str} : (signsD s).length = s.cps.size := by simp [signsD]
theorem wk_str {s : Str} : Wk K as G (signsD s) none (Its s) where
  go := fun i H2 as2 G2 ws2 hp hG W hs hi => by
    rw [signsD_len] at hi
    exact hi
  stop := fun H2 as2 G2 ws2 hp hG W hs => by
    rw [signsD_len]
    exact Nat.le_refl _
  yld := fun i H2 x H' as2 G2 ws2 hp hG W hs hi y => by
    obtain ⟨e, c, h1, h2⟩ := y
    subst e
    exact ⟨_, G2, signsD_get h1, Rch.refl, W, by simpa [Rep] using h2⟩
end
section
variable {K : PySem.W.Frag} {X : Cx} {E : XK} {tg e : Expr} {es : List Expr} {te : TE} {ta : TA} {se : Se} {sa : Sa} {pos p tpos : Pos} {elts : List Expr} {kk : Nat}
theorem ai_list (h : AE K X E e te se) : AI K X E tg e (iList K te) (sItL se) := by
  have e0 := h.hK
  subst e0
  refine ⟨rfl, pi_list h.pe, fun ρ ws G H as σ Q W S P => h.ev ρ ws G H as σ _ W S (Post.bind P fun x ws1 v G1 H1 as1 r1 W1 rx P1 => ?_)⟩
  obtain ⟨z, hz, P2⟩ := Post.ofO P1
  obtain ⟨ds, src⟩ := z
  obtain ⟨a, e1, ⟨vs, e2⟩, e3⟩ := it_at W1 hz rx
  exact ⟨a, e1, ⟨vs, .inl (.inl e2)⟩, Post.done P2 W1 (wk_list e3)⟩
theorem ai_tup (h : AE K X E e te se) : AI K X E tg e (iTup K te) (sItT se) := by
  have e0 := h.hK
  subst e0
  refine ⟨rfl, pi_tup h.pe, fun ρ ws G H as σ Q W S P => h.ev ρ ws G H as σ _ W S (Post.bind P fun x ws1 v G1 H1 as1 r1 W1 rx P1 => ?_)⟩
  obtain ⟨z, hz, P2⟩ := Post.ofO P1
  obtain ⟨ds, h1, h2⟩ := Option.map_eq_some_iff.mp hz
  subst h2
  cases x with
  | tup l =>
    cases h1
    simp only [Rep] at rx
    obtain ⟨a, vs, e1, e2, e3⟩ := rx
    exact ⟨a, e1, ⟨vs, .inl (.inl (W1.le _ _ e2))⟩, Post.done P2 W1 (wk_tup e2 e3)⟩
  | _ => cases h1
theorem ai_range1 (hg : Gl X "range") (hm : X.mg "range" = none) (h : AA K X E [e] ta sa) (hs : starEach [e] X.env = [(false, eval e X.env)] := by rfl) : AI K X E tg (.Call (.Name "range" p) [e] [] pos) (iRng1 ta) (sItR1 sa) := by
  refine ⟨h.hK, pi_range1 hg hm h.pe hs, fun ρ ws G H as σ Q W S P => h.ev ρ ws G H as σ _ W S (Post.bind P fun ds ws1 vs G1 H1 as1 r1 W1 rx P1 => ?_)⟩
  split at P1
  · rename_i j
    split at P1
    · rename_i hj
      obtain ⟨v, vs', e1, e2, e3⟩ := rx.uncons
      rw [e3.unnil] at e1
      simp only [Rep] at e2
      subst e1 e2
      exact ⟨j, rfl, by omega, by omega, Post.done P1 W1 wk_range⟩
    · exact False.elim P1
  · exact False.elim P1
theorem ai_range2 {a b : Expr} (hg : Gl X "range") (hm : X.mg "range" = none) (h : AA K X E [a, b] ta sa) (hs : starEach [a, b] X.env = [(false, eval a X.env), (false, eval b X.env)] := by rfl) (hs2 : starEach [b] X.env = [(false, eval b X.env)] := by rfl) : AI K X E tg (.Call (.Name "range" p) [a, b] [] pos) (iRng2 ta) (sItR2 sa) := by
  refine ⟨h.hK, pi_range2 hg hm h.pe hs hs2, fun ρ ws G H as σ Q W S P => h.ev ρ ws G H as σ _ W S (Post.bind P fun ds ws1 vs G1 H1 as1 r1 W1 rx P1 => ?_)⟩
  split at P1
  · rename_i i j
    split at P1
    · rename_i hj
      obtain ⟨v, vs', e1, e2, e3⟩ := rx.uncons
      obtain ⟨v', vs'', f1, f2, f3⟩ := e3.uncons
      rw [f3.unnil] at f1
      simp only [Rep] at e2 f2
      subst f1 e1 e2 f2
      exact ⟨i, j, rfl, ⟨by omega, by omega, by omega, by omega⟩, Post.done P1 W1 wk_range⟩
    · exact False.elim P1
  · exact False.elim P1
theorem ai_str (h : AE K X E e te se) : AI K X E tg e (iStr te) (sItS se) := by
  refine ⟨h.hK, pi_str h.pe, fun ρ ws G H as σ Q W S P => h.ev ρ ws G H as σ _ W S (Post.bind P fun x ws1 v G1 H1 as1 r1 W1 rx P1 => ?_)⟩
  cases x with
  | str s =>
    simp only [Rep] at rx
    exact ⟨s, rx, Post.done P1 W1 wk_str⟩
  | _ => exact False.elim P1
theorem ai_enum (hg : Gl X "enumerate") (hm : X.mg "enumerate" = none) (h : AA K X E [e] ta sa) (hs : starEach [e] X.env = [(false, eval e X.env)] := by rfl) : AI K X E (.Tuple elts kk tpos) (.Call (.Name "enumerate" p) [e] [] pos) (iEnum K ta) (sItE sa) := by
  have e0 := h.hK
  subst e0
  refine ⟨rfl, pi_enum hg hm h.pe hs, fun ρ ws G H as σ Q W S P => h.ev ρ ws G H as σ _ W S (Post.bind P fun ds ws1 vs G1 H1 as1 r1 W1 rx P1 => ?_)⟩
  split at P1
  · rename_i l
    obtain ⟨v, vs', e1, e2, e3⟩ := rx.uncons
    rw [e3.unnil] at e1
    simp only [Rep] at e2
    obtain ⟨a, us, e4, e5, e6⟩ := e2
    subst e1 e4
    exact ⟨a, us, rfl, .inl (.inl (W1.le _ _ e5)), Post.done P1 W1 (wk_enumL e5 e6)⟩
  · exact False.elim P1
theorem ai_enumT (hg : Gl X "enumerate") (hm : X.mg "enumerate" = none) (h : AA K X E [e] ta sa) (hs : starEach [e] X.env = [(false, eval e X.env)] := by rfl) : AI K X E (.Tuple elts kk tpos) (.Call (.Name "enumerate" p) [e] [] pos) (iEnumT K ta) (sItET sa) := by
  have e0 := h.hK
  subst e0
  refine ⟨rfl, pi_enumT hg hm h.pe hs, fun ρ ws G H as σ Q W S P => h.ev ρ ws G H as σ _ W S (Post.bind P fun ds ws1 vs G1 H1 as1 r1 W1 rx P1 => ?_)⟩
  split at P1
  · rename_i l
    obtain ⟨v, vs', e1, e2, e3⟩ := rx.uncons
    rw [e3.unnil] at e1
    simp only [Rep] at e2
    obtain ⟨a, us, e4, e5, e6⟩ := e2
    subst e1 e4
    exact ⟨a, us, rfl, .inl (.inl (W1.le _ _ e5)), Post.done P1 W1 (wk_enumT e5 e6)⟩
  · exact False.elim P1
end
end RL
set_option Elab.async false
set_option linter.all false
set_option maxRecDepth 100000
/-! RL6: built-ins by values, methods of lists and texts, slices, f-strings, items stored. -/
namespace RL
open PySem PySem.Spec PyProof.Rows L2
/-! ### calls of built-ins -/
abbrev Fb := List D → List Ce → Option (D × List Ce)
def CaD (K : PySem.W.Frag) (r : List V → Hp → VK → Prop) (f : Fb) : Prop := ∀ ws G H as xs ds y ws' Q, Wd K G H as ws → Reps K as G ds xs → f ds ws = some (y, ws') →
  (∀ v G' H' as', Rch G H as G' H' as' → Wd K G' H' as' ws' → Rep K as' G' y v → Q v H') → r xs H Q
def sCB (f : Fb) (a : Sa) : Se := fun ρ ws => (a ρ ws).bind fun ds ws1 => match f ds ws1 with
  | some p => .ok p.1 p.2
  | none => .bad
theorem evCB {K : PySem.W.Frag} {E : XK} {r : List V → Hp → VK → Prop} {f : Fb} {ta : TA} {a : Sa} (h : CaD K r f) (ha : EvA K E ta a) : EvE K E (tCB r ta) (sCB f a) := fun ρ ws G H as σ Q W S P => by
  refine ha ρ ws G H as σ _ W S (Post.bind P fun ds ws1 vs G1 H1 as1 r1 W1 rs P1 => ?_)
  split at P1
  · rename_i p hp
    exact h ws1 G1 H1 as1 vs ds p.1 p.2 Q W1 rs hp fun v G' H' as' q w rep => P1 v G' H' as' q w rep
  · exact False.elim P1
section
variable {K : PySem.W.Frag} {X : Cx} {E : XK} {e : Expr} {es : List Expr} {ta : TA} {sa : Sa} {r : List V → Hp → VK → Prop} {f : Fb} {x : Str} {id T : String} {p pos : Pos}
theorem ae_blt (hc : CallR X (.builtin id) r) (h : CaD K r f) (hm : X.mg x = none) (ha : AA K X E (e :: es) ta sa) (hv : bootBuiltins x = some (.builtin id) := by rfl) (hg : Gl X x := by rfl) (hn : x ≠ "__name__" := by decide) (hdb : (x == ("__debug__" : Str)) = false := by decide)
    (he : starEach (e :: es) X.env = (false, eval e X.env) :: starEach es X.env := by rfl) (hpl : (backTo pos (starEach es X.env)).any (·.1) = false := by rfl) : AE K X E (.Call (.Name x p) (e :: es) [] pos) (tCB r ta) (sCB f sa) :=
  ⟨ha.hK, pe_callB hc hg hm hv ha.pe hn hdb he hpl, evCB h ha.ev⟩
theorem ae_ty (hc : CallR X (.type T) r) (h : CaD K r f) (hm : X.mg x = none) (ha : AA K X E (e :: es) ta sa) (hv : bootBuiltins x = some (.type T) := by rfl) (hg : Gl X x := by rfl) (hn : x ≠ "__name__" := by decide) (hdb : (x == ("__debug__" : Str)) = false := by decide)
    (he : starEach (e :: es) X.env = (false, eval e X.env) :: starEach es X.env := by rfl) (hpl : (backTo pos (starEach es X.env)).any (·.1) = false := by rfl) : AE K X E (.Call (.Name x p) (e :: es) [] pos) (tCB r ta) (sCB f sa) :=
  ⟨ha.hK, pe_callTy hc hg hm hv ha.pe hn hdb he hpl, evCB h ha.ev⟩
end
section
variable {K : PySem.W.Frag}
/-- a pure answer from one argument -/
def fb1 (g : List Ce → D → Option D) : Fb := fun ds ws => match ds with
  | [x] => (g ws x).map fun y => (y, ws)
  | _ => none
theorem CaD.one {r : List V → Hp → VK → Prop} {g : List Ce → D → Option D} (h : ∀ (ws : List Ce) (G H : Hp) (as : List Addr) (x : V) (d z : D) (Q : VK), Wd K G H as ws → Rep K as G d x → g ws d = some z → (∀ v, Rep K as G z v → Q v H) → r [x] H Q) : CaD K r (fb1 g) := fun ws G H as xs ds y ws' Q W rs e k => by
  unfold fb1 at e
  split at e
  · rename_i d
    obtain ⟨z, h1, h2⟩ := Option.map_eq_some_iff.mp e
    cases h2
    obtain ⟨v, vs, e1, e2, e3⟩ := rs.uncons
    rw [e3.unnil] at e1
    subst e1
    exact h ws G H as v d _ Q W e2 h1 fun u ru => k u G H as Rch.refl W ru
  · cases e
def gLen : List Ce → D → Option D := fun ws x => match x with
  | .str s => if s.length ≤ 100000 then some (.int (s.length : Nat)) else none
  | _ => (seqOf ws x).map fun l => .int (l.length : Nat)
theorem cd_len : CaD K (fun xs H Q => ∃ x n, xs = [x] ∧ LenV K x H n ∧ Q (.int n) H) (fb1 gLen) := .one fun ws G H as x d z Q W r e k => by
  unfold gLen at e
  split at e
  · rename_i s
    split at e
    · rename_i h
      cases e
      simp only [Rep] at r
      subst r
      exact ⟨_, _, rfl, ⟨small5 h, rfl⟩, k _ (by simp [Rep])⟩
    · cases e
  · obtain ⟨l, h1, h2⟩ := Option.map_eq_some_iff.mp e
    subst h2
    obtain ⟨a, vs, e1, e2, e3⟩ := seq_rep W h1 r
    subst e1
    exact ⟨_, l.length, rfl, e2.imp (fun q => ⟨vs, q, e3.len⟩) (fun q => ⟨vs, q, e3.len⟩), k _ (by simp [Rep])⟩
def gInt : List Ce → D → Option D := fun _ x => match x with
  | .int i => some (.int i)
  | .bl b => some (.int (if b then 1 else 0))
  | _ => none
theorem cd_int : CaD K (fun xs H Q => (∃ i, xs = [.int i] ∧ Q (.int i) H) ∨ ∃ k, xs = [.bl k] ∧ Q (.int (if k then 1 else 0)) H) (fb1 gInt) := .one fun ws G H as x d z Q W r e k => by
  unfold gInt at e
  split at e
  · cases e
    simp only [Rep] at r
    subst r
    exact .inl ⟨_, rfl, k _ (by simp [Rep])⟩
  · cases e
    simp only [Rep] at r
    subst r
    exact .inr ⟨_, rfl, k _ (by simp [Rep])⟩
  · cases e
def gIntS : List Ce → D → Option D := fun _ x => match x with
  | .str a => if a.length ≤ 640 then (PySem.intText? a).map .int else none
  | _ => none
theorem cd_intS : CaD K (fun xs H Q => ∃ a n, xs = [.str a] ∧ PySem.intText? a = some n ∧ a.length ≤ 640 ∧ Q (.int n) H) (fb1 gIntS) := .one fun ws G H as x d z Q W r e k => by
  unfold gIntS at e
  split at e
  · split at e
    · rename_i h
      obtain ⟨n, h1, h2⟩ := Option.map_eq_some_iff.mp e
      subst h2
      simp only [Rep] at r
      subst r
      exact ⟨_, n, rfl, h1, h, k _ (by simp [Rep])⟩
    · cases e
  · cases e
def gStr : List Ce → D → Option D := fun _ x => match x with
  | .int i => if i.natAbs.log2 < 1920 then some (.str (toString i)) else none
  | _ => none
theorem cd_str : CaD K (fun xs H Q => ∃ i, xs = [.int i] ∧ i.natAbs.log2 < 1920 ∧ Q (.str (toString i)) H) (fb1 gStr) := .one fun ws G H as x d z Q W r e k => by
  unfold gStr at e
  split at e
  · split at e
    · rename_i h
      cases e
      simp only [Rep] at r
      subst r
      exact ⟨_, rfl, h, k _ (by simp [Rep])⟩
    · cases e
  · cases e
def gStrS : List Ce → D → Option D := fun _ x => match x with
  | .str a => some (.str a)
  | _ => none
theorem cd_strS : CaD K (fun xs H Q => ∃ a, xs = [.str a] ∧ Q (.str a) H) (fb1 gStrS) := .one fun ws G H as x d z Q W r e k => by
  unfold gStrS at e
  split at e
  · cases e
    simp only [Rep] at r
    subst r
    exact ⟨_, rfl, k _ (by simp [Rep])⟩
  · cases e
def gAbs : List Ce → D → Option D := fun _ x => match x with
  | .int i => some (.int (if i < 0 then -i else i))
  | _ => none
theorem cd_abs : CaD K (fun xs H Q => ∃ i, xs = [.int i] ∧ Q (.int (if i < 0 then -i else i)) H) (fb1 gAbs) := .one fun ws G H as x d z Q W r e k => by
  unfold gAbs at e
  split at e
  · cases e
    simp only [Rep] at r
    subst r
    exact ⟨_, rfl, k _ (by simp [Rep])⟩
  · cases e
/-! lists of one kind -/
def blsOf : List D → Option (List Bool)
  | [] => some []
  | .bl b :: ds => (blsOf ds).map (b :: ·)
  | _ => none
def intsOf : List D → Option (List Int)
  | [] => some []
  | .int b :: ds => (intsOf ds).map (b :: ·)
  | _ => none
def strsOf : List D → Option (List Str)
  | [] => some []
  | .str b :: ds => (strsOf ds).map (b :: ·)
  | _ => none
theorem blsOf_eq : ∀ {ds : List D} {bs : List Bool}, blsOf ds = some bs → ds = bs.map .bl
  | [], bs, h => by simp [blsOf] at h; subst h; rfl
  | d :: ds, bs, h => by
    cases d <;> simp [blsOf] at h
    obtain ⟨cs, h1, h2⟩ := h
    subst h2
    rw [blsOf_eq h1] <;> rfl
theorem intsOf_eq : ∀ {ds : List D} {bs : List Int}, intsOf ds = some bs → ds = bs.map .int
  | [], bs, h => by simp [intsOf] at h; subst h; rfl
  | d :: ds, bs, h => by
    cases d <;> simp [intsOf] at h
    obtain ⟨cs, h1, h2⟩ := h
    subst h2
    rw [intsOf_eq h1] <;> rfl
theorem strsOf_eq : ∀ {ds : List D} {bs : List Str}, strsOf ds = some bs → ds = bs.map .str
  | [], bs, h => by simp [strsOf] at h; subst h; rfl
  | d :: ds, bs, h => by
    cases d <;> simp [strsOf] at h
    obtain ⟨cs, h1, h2⟩ := h
    subst h2
    rw [strsOf_eq h1] <;> rfl
@[simp] theorem blsOf_map (bs : List Bool) : blsOf (bs.map .bl) = some bs := by induction bs <;> simp_all [blsOf]
@[simp] theorem intsOf_map (bs : List Int) : intsOf (bs.map .int) = some bs := by induction bs <;> simp_all [intsOf]
@[simp] theorem strsOf_map (bs : List Str) : strsOf (bs.map .str) = some bs := by induction bs <;> simp_all [strsOf]
theorem reps_bl {as : List Addr} {G : Hp} : ∀ {bs : List Bool} {vs : List V}, Reps K as G (bs.map .bl) vs → vs = bs.map .bl
  | [], vs, h => h.unnil
  | b :: bs, vs, h => by
    obtain ⟨v, us, e1, e2, e3⟩ := Reps.uncons (ds := bs.map .bl) h
    simp only [Rep] at e2
    rw [e1, e2, reps_bl e3] <;> rfl
theorem reps_int {as : List Addr} {G : Hp} : ∀ {bs : List Int} {vs : List V}, Reps K as G (bs.map .int) vs → vs = bs.map .int
  | [], vs, h => h.unnil
  | b :: bs, vs, h => by
    obtain ⟨v, us, e1, e2, e3⟩ := Reps.uncons (ds := bs.map .int) h
    simp only [Rep] at e2
    rw [e1, e2, reps_int e3] <;> rfl
theorem reps_str {as : List Addr} {G : Hp} : ∀ {bs : List Str} {vs : List V}, Reps K as G (bs.map .str) vs → vs = bs.map .str
  | [], vs, h => h.unnil
  | b :: bs, vs, h => by
    obtain ⟨v, us, e1, e2, e3⟩ := Reps.uncons (ds := bs.map .str) h
    simp only [Rep] at e2
    rw [e1, e2, reps_str e3] <;> rfl
theorem str_reps {as : List Addr} {G : Hp} : ∀ {bs : List Str}, Reps K as G (bs.map .str) (bs.map .str)
  | [] => Reps.nil
  | b :: bs => Reps.cons (by simp [Rep]) str_reps
def gAll : List Ce → D → Option D := fun ws x => (lstOf ws x).bind fun l => (blsOf l).map fun bs => .bl (bs.all id)
def gAny : List Ce → D → Option D := fun ws x => (lstOf ws x).bind fun l => (blsOf l).map fun bs => .bl (bs.any id)
theorem cd_all : CaD K (rAll K) (fb1 gAll) := .one fun ws G H as x d z Q W r e k => by
  simp only [gAll, Option.bind_eq_some_iff, Option.map_eq_some_iff] at e
  obtain ⟨l, h1, bs, h2, h3⟩ := e
  obtain ⟨a, vs, e1, e2, e3⟩ := lst_rep W h1 r
  rw [blsOf_eq h2] at e3
  rw [reps_bl e3] at e2
  subst e1 h3
  exact ⟨a, bs, rfl, .inl (.inl e2), k _ (by simp [Rep])⟩
theorem cd_any : CaD K (rAny K) (fb1 gAny) := .one fun ws G H as x d z Q W r e k => by
  simp only [gAny, Option.bind_eq_some_iff, Option.map_eq_some_iff] at e
  obtain ⟨l, h1, bs, h2, h3⟩ := e
  obtain ⟨a, vs, e1, e2, e3⟩ := lst_rep W h1 r
  rw [blsOf_eq h2] at e3
  rw [reps_bl e3] at e2
  subst e1 h3
  exact ⟨a, bs, rfl, .inl (.inl e2), k _ (by simp [Rep])⟩
def maxI : List Int → Int
  | [] => 0
  | [a] => a
  | a :: l => max a (maxI l)
theorem maxI_spec : ∀ (l : List Int) (m : Int), m ∈ l → (∀ y ∈ l, y ≤ m) → m = maxI l
  | [], m, h, _ => by cases h
  | [a], m, h, _ => by simpa [maxI] using h
  | a :: b :: l, m, h, k => by
    show m = max a (maxI (b :: l))
    rcases List.mem_cons.mp h with e | e
    · subst e
      have hm : maxI (b :: l) ≤ m := by
        have : ∀ (l : List Int), l ≠ [] → maxI l ∈ l := by
          intro l
          induction l with
          | nil => intro h; exact absurd rfl h
          | cons c l ih =>
            intro _
            cases l with
            | nil => simp [maxI]
            | cons d l =>
              have := ih (by simp)
              show max c (maxI (d :: l)) ∈ _
              rcases Int.le_total c (maxI (d :: l)) with q | q
              · rw [Int.max_eq_right q]
                exact List.mem_cons_of_mem _ this
              · rw [Int.max_eq_left q]
                exact List.mem_cons_self
        exact k _ (List.mem_cons_of_mem _ (this _ (by simp)))
      omega
    · have q := maxI_spec (b :: l) m e fun y hy => k y (List.mem_cons_of_mem _ hy)
      have := k a List.mem_cons_self
      omega
def gMax : List Ce → D → Option D := fun ws x => (lstOf ws x).bind fun l => (intsOf l).bind fun bs => if 0 < bs.length then some (.int (maxI bs)) else none
theorem cd_max : CaD K (rMax K) (fb1 gMax) := .one fun ws G H as x d z Q W r e k => by
  simp only [gMax, Option.bind_eq_some_iff] at e
  obtain ⟨l, h1, bs, h2, h3⟩ := e
  split at h3
  · rename_i h4
    cases h3
    obtain ⟨a, vs, e1, e2, e3⟩ := lst_rep W h1 r
    rw [intsOf_eq h2] at e3
    rw [reps_int e3] at e2
    subst e1
    exact ⟨a, bs, rfl, .inl (.inl e2), h4, fun m hm hy => by rw [maxI_spec bs m hm hy]; exact k _ (by simp [Rep])⟩
  · cases h3
def gTuple : List Ce → D → Option D := fun ws x => (seqOf ws x).map .tup
theorem cd_tuple : CaD K (fun xs H Q => ∃ p ys, xs = [.ref p] ∧ ((SqL K H p ys ∧ ∀ l, H l = none → Q (.ref l) (upd H l (.tup ys))) ∨ (SqT K H p ys ∧ Q (.ref p) H))) (fb1 gTuple) := fun ws G H as xs ds y ws' Q W rs e k => by
  unfold fb1 at e
  split at e
  · rename_i d
    obtain ⟨z, h1, h2⟩ := Option.map_eq_some_iff.mp e
    cases h2
    obtain ⟨l, h3, h4⟩ := Option.map_eq_some_iff.mp h1
    subst h4
    obtain ⟨v, vs, e1, e2, e3⟩ := rs.uncons
    rw [e3.unnil] at e1
    subst e1
    rcases seqOf_cases h3 with h5 | h5
    · obtain ⟨a, us, f1, f2, f3⟩ := lst_rep W h5 e2
      subst f1
      refine ⟨a, us, rfl, .inl ⟨.inl (.inl f2), fun p hp => k _ _ _ as (Rch.new W.le hp) (W.new hp) ?_⟩⟩
      simp only [Rep]
      exact ⟨p, us, rfl, upd_same, f3.up (List.prefix_refl _) (Rch.new (as := as) W.le hp).up⟩
    · cases d with
      | tup l' =>
        cases h5
        have e2' := e2
        simp only [Rep] at e2
        obtain ⟨a, us, f1, f2, f3⟩ := e2
        subst f1
        exact ⟨a, us, rfl, .inr ⟨.inl (.inl (W.le _ _ f2)), k _ G H as Rch.refl W e2'⟩⟩
      | _ => cases h5
  · cases e
/-- list(x): a list that may be written -/
def fbList : Fb := fun ds ws => match ds with
  | [x] => (seqOf ws x).map fun l => (.cell ws.length, ws ++ [.lst l])
  | _ => none
theorem cd_list : CaD K (fun xs H Q => ∃ p ys, xs = [.ref p] ∧ (SqL K H p ys ∨ SqT K H p ys) ∧ ∀ l, H l = none → Q (.ref l) (upd H l (.lst ys))) fbList := fun ws G H as xs ds y ws' Q W rs e k => by
  unfold fbList at e
  split at e
  · rename_i d
    obtain ⟨l, h1, h2⟩ := Option.map_eq_some_iff.mp e
    cases h2
    obtain ⟨v, vs, e1, e2, e3⟩ := rs.uncons
    rw [e3.unnil] at e1
    subst e1
    obtain ⟨a, us, f1, f2, f3⟩ := seq_rep W h1 e2
    subst f1
    exact ⟨a, us, rfl, f2, fun p hp => k _ _ _ _ (Rch.cell hp) (W.cell (c := .lst l) hp ⟨us, rfl, f3.up (prefix_snoc _ _) (Same.refl _)⟩) (rep_cell W)⟩
  · cases e
end
end RL
set_option Elab.async false
set_option linter.all false
set_option maxRecDepth 100000
/-! RL7: methods of lists and texts, slices, f-strings, items stored. -/
namespace RL
open PySem PySem.Spec PyProof.Rows L2
abbrev Fm := D → List D → List Ce → Option (D × List Ce)
/-- what a method of the built-in type T does -/
def MeD (K : PySem.W.Frag) (T : String) (r : V → List V → Hp → VK → Prop) (f : Fm) : Prop :=
  ∀ ws G H as x xs d ds y ws' Q, Wd K G H as ws → Rep K as G d x → Reps K as G ds xs → f d ds ws = some (y, ws') →
  (∀ v G' H' as', Rch G H as G' H' as' → Wd K G' H' as' ws' → Rep K as' G' y v → Q v H') → r x xs H Q
/-- is it of the type T -/
def isTy (T : String) (ws : List Ce) (d : D) : Bool := match d with
  | .str _ => T == "str"
  | .lst _ => T == "list"
  | .cell n => (match ws[n]? with
    | some (.lst _) => T == "list"
    | _ => false)
  | _ => false
theorem isTy_ok {K : PySem.W.Frag} {G H : Hp} {as : List Addr} {ws : List Ce} {T : String} {d : D} {x : V} (W : Wd K G H as ws) (r : Rep K as G d x) (h : isTy T ws d = true) : tyV K T x H := by
  cases d with
  | str s =>
    simp only [Rep] at r
    subst r
    show T = "str"
    simpa [isTy] using h
  | lst l =>
    simp only [Rep] at r
    obtain ⟨a, vs, e1, e2, e3⟩ := r
    subst e1
    exact .inl ⟨by simpa [isTy] using h, vs, .inl (.inl (W.le _ _ e2))⟩
  | cell n =>
    simp only [isTy] at h
    cases q : ws[n]? with
    | none => rw [q] at h; cases h
    | some c =>
      rw [q] at h
      cases c with
      | lst l =>
        obtain ⟨a, o, e1, e2, e3, vs, e4, e5⟩ := W.cellAt q (fun z => by cases z) r
        subst e4 e1
        exact .inl ⟨by simpa using h, vs, .inl (.inl e3)⟩
      | _ => cases h
  | _ => cases h
def sMB (T : String) (f : Fm) (o : Se) (a : Sa) : Se := fun ρ ws => (o ρ ws).bind fun d ws1 => if isTy T ws1 d = true then (a ρ ws1).bind fun ds ws2 => match f d ds ws2 with
    | some p => .ok p.1 p.2
    | none => .bad
  else .bad
section
variable {K : PySem.W.Frag} {X : Cx} {E : XK} {o e : Expr} {es : List Expr} {to : TE} {ta : TA} {so : Se} {sa : Sa} {r : V → List V → Hp → VK → Prop} {f : Fm} {name : Str} {id T : String} {apos pos : Pos}
theorem evMB (h : MeD K T r f) (ho : EvE K E to so) (ha : EvA K E ta sa) : EvE K E (tBM K T r to ta) (sMB T f so sa) := fun ρ ws G H as σ Q W S P => by
  refine ho ρ ws G H as σ _ W S (Post.bind P fun d ws1 x G1 H1 as1 r1 W1 rx P1 => ?_)
  split at P1
  · rename_i ht
    refine ⟨isTy_ok W1 rx ht, ha ρ ws1 G1 H1 as1 σ _ W1 (S.up r1.pre r1.up) (Post.bind P1 fun ds ws2 xs G2 H2 as2 r2 W2 rs P2 => ?_)⟩
    split at P2
    · rename_i p hp
      exact h ws2 G2 H2 as2 x xs d ds p.1 p.2 Q W2 (rx.up r2.pre r2.up) rs hp fun v G' H' as' q w rep => P2 v G' H' as' q w rep
    · exact False.elim P2
  · exact False.elim P1
theorem ae_bm (pa : PlainAttrs T) (slot : Slot T name id) (hty : typeOf (.builtin id) = pure (.type "method_descriptor")) (hm : MtR X id r) (h : MeD K T r f) (ho : AE K X E o to so) (ha : AA K X E (e :: es) ta sa)
    (hbase : attributeBase o name X.env (eval o X.env) = eval o X.env := by rfl)
    (hfew : ((backTo pos (starEach (e :: es) X.env)).all (fun x => !x.1) && (backToKw pos (keywordEach [] X.env)).all (fun x => x.1.isSome)
      && decide ((e :: es).length + ([] : List Keyword).length + (if ([] : List Keyword).isEmpty then 0 else 1) < 30)) = true := by rfl)
    (hline : (apos.endLine == pos.line) = true := by rfl) (hs : starEach (e :: es) X.env = (false, eval e X.env) :: starEach es X.env := by rfl) (hplain : (backTo pos (starEach es X.env)).any (·.1) = false := by rfl) :
    AE K X E (.Call (.Attribute o name apos) (e :: es) [] pos) (tBM K T r to ta) (sMB T f so sa) := by
  have e0 := ho.hK
  subst e0
  exact ⟨rfl, pe_bm pa slot hty hm ho.pe ha.pe hbase hfew hline hs hplain, evMB h ho.ev ha.ev⟩
end
section
variable {K : PySem.W.Frag}
/-- a cell that holds a list -/
theorem cell_lst {G H : Hp} {as : List Addr} {ws : List Ce} {n : Nat} {l : List D} {x : V} (W : Wd K G H as ws) (q : ws[n]? = some (.lst l)) (r : Rep K as G (.cell n) x) : ∃ a vs, x = .ref a ∧ as[n]? = some a ∧ H a = some (.lst vs) ∧ Reps K as G l vs := by
  obtain ⟨a, o, e1, e2, e3, vs, e4, e5⟩ := W.cellAt q (fun z => by cases z) r
  subst e4
  exact ⟨a, vs, e1, e2, e3, e5⟩
def fmAppend : Fm := fun d ds ws => match d, ds with
  | .cell n, [y] => (match ws[n]? with
    | some (.lst l) => if l.length < 100000 then some (.non, ws.set n (.lst (l ++ [y]))) else none
    | _ => none)
  | _, _ => none
theorem md_append : MeD K "list" rAppend fmAppend := fun ws G H as x xs d ds y ws' Q W rx rs e k => by
  unfold fmAppend at e
  split at e
  · rename_i n y
    split at e
    · rename_i l q
      split at e
      · rename_i hl
        cases e
        obtain ⟨a, vs, e1, e2, e3, e4⟩ := cell_lst W q rx
        obtain ⟨v, us, f1, f2, f3⟩ := rs.uncons
        rw [f3.unnil] at f1
        exact ⟨a, vs, v, e1, f1, e3, small5' (by rw [← e4.len]; exact hl), k .non G _ as (Rch.put (List.mem_of_getElem? e2)) (W.put e2 q (fun z => by cases z) ⟨_, rfl, e4.app (Reps.one f2)⟩) (by simp [Rep])⟩
      · cases e
    · cases e
  · cases e
theorem Reps.erase {as : List Addr} {G : Hp} : ∀ {ds : List D} {vs : List V} {i : Nat}, Reps K as G ds vs → Reps K as G (ds.eraseIdx i) (vs.eraseIdx i)
  | [], vs, i, h => by
    rw [h.unnil]
    exact Reps.nil
  | d :: ds, vs, 0, h => by
    obtain ⟨u, us, e, h1, h2⟩ := h.uncons
    rw [e]
    exact h2
  | d :: ds, vs, i + 1, h => by
    obtain ⟨u, us, e, h1, h2⟩ := h.uncons
    rw [e]
    exact Reps.cons h1 (Reps.erase h2)
theorem Reps.take {as : List Addr} {G : Hp} : ∀ {ds : List D} {vs : List V} (i : Nat), Reps K as G ds vs → Reps K as G (ds.take i) (vs.take i)
  | _, _, 0, h => Reps.nil
  | [], vs, i + 1, h => by
    rw [h.unnil]
    exact Reps.nil
  | d :: ds, vs, i + 1, h => by
    obtain ⟨u, us, e, h1, h2⟩ := h.uncons
    rw [e]
    exact Reps.cons h1 (Reps.take i h2)
theorem Reps.drop {as : List Addr} {G : Hp} : ∀ {ds : List D} {vs : List V} (i : Nat), Reps K as G ds vs → Reps K as G (ds.drop i) (vs.drop i)
  | _, _, 0, h => h
  | [], vs, i + 1, h => by
    rw [h.unnil]
    exact Reps.nil
  | d :: ds, vs, i + 1, h => by
    obtain ⟨u, us, e, h1, h2⟩ := h.uncons
    rw [e]
    exact Reps.drop i h2
def fmPop : Fm := fun d ds ws => match d, ds with
  | .cell n, [.int i] => (match ws[n]? with
    | some (.lst l) => if -1000000 ≤ i ∧ i ≤ 1000000 then (seqIndex? i l.length).bind fun k => l[k]?.map fun y => (y, ws.set n (.lst (l.eraseIdx k))) else none
    | _ => none)
  | _, _ => none
theorem md_pop : MeD K "list" rPopAt fmPop := fun ws G H as x xs d ds y ws' Q W rx rs e k => by
  unfold fmPop at e
  split at e
  · rename_i n i
    split at e
    · rename_i l q
      split at e
      · rename_i hi
        simp only [Option.bind_eq_some_iff, Option.map_eq_some_iff] at e
        obtain ⟨j, h1, z, h2, h3⟩ := e
        cases h3
        obtain ⟨a, vs, e1, e2, e3, e4⟩ := cell_lst W q rx
        obtain ⟨v, us, f1, f2, f3⟩ := rs.uncons
        rw [f3.unnil] at f1
        simp only [Rep] at f2
        subst f2
        obtain ⟨u, g1, g2⟩ := e4.get h2
        exact ⟨a, vs, i, j, u, e1, f1, e3, by omega, by omega, by rw [← e4.len]; exact h1, g1, k u G _ as (Rch.put (List.mem_of_getElem? e2)) (W.put e2 q (fun z => by cases z) ⟨_, rfl, e4.erase⟩) g2⟩
      · cases e
    · cases e
  · cases e
def fmSplit : Fm := fun d ds ws => match d, ds with
  | .str a, [.str b] => if (b.length == 0) = false ∧ a.length ≤ 90000 then some (.lst ((Txt.split a b).map .str), ws) else none
  | _, _ => none
theorem md_split : MeD K "str" (fun x xs H Q => ∃ a b, x = .str a ∧ xs = [.str b] ∧ (b.length == 0) = false ∧ a.length + 2 ≤ sizeLine ∧ rNewStrs (Txt.split a b) H Q) fmSplit := fun ws G H as x xs d ds y ws' Q W rx rs e k => by
  unfold fmSplit at e
  split at e
  · rename_i a b
    split at e
    · rename_i h
      cases e
      obtain ⟨v, us, f1, f2, f3⟩ := rs.uncons
      rw [f3.unnil] at f1
      simp only [Rep] at f2 rx
      subst f2 f1 rx
      refine ⟨a, b, rfl, rfl, h.1, small5 (n := a.length + 2) (by
        have := h.2
        omega), fun p hp => k _ _ _ as (Rch.new W.le hp) (W.new hp) ?_⟩
      simp only [Rep]
      exact ⟨p, _, rfl, upd_same, str_reps⟩
    · cases e
  · cases e
def joinD (a : Str) (ys : List Str) (ws : List Ce) : Option (D × List Ce) := if (ys.map (·.length)).sum + ys.length * a.length ≤ 100000 then some (.str (Txt.join a ys), ws) else none
def fmJoin : Fm := fun d ds ws => match d, ds with
  | .str a, [x] => (seqOf ws x).bind fun l => (strsOf l).bind fun ys => joinD a ys ws
  | _, _ => none
theorem md_join : MeD K "str" (fun x xs H Q => ∃ a p, ∃ ys : List Str, x = .str a ∧ xs = [.ref p] ∧ (SqL K H p (ys.map V.str) ∨ SqT K H p (ys.map V.str)) ∧
    (ys.map (·.length)).sum + ys.length * a.length ≤ 16777216 ∧ Q (.str (Txt.join a ys)) H) fmJoin := fun ws G H as x xs d ds y ws' Q W rx rs e k => by
  unfold fmJoin at e
  split at e
  · rename_i a x
    simp only [Option.bind_eq_some_iff] at e
    obtain ⟨l, h1, ys, h2, h3⟩ := e
    unfold joinD at h3
    split at h3
    · rename_i h
      cases h3
      obtain ⟨v, us, f1, f2, f3⟩ := rs.uncons
      rw [f3.unnil] at f1
      simp only [Rep] at rx
      obtain ⟨p, vs, g1, g2, g3⟩ := seq_rep W h1 f2
      rw [strsOf_eq h2] at g3
      rw [reps_str g3] at g2
      subst f1 rx g1
      exact ⟨a, p, ys, rfl, rfl, g2, by omega, k _ G H as Rch.refl W (by simp [Rep])⟩
    · cases h3
  · cases e
end
/-! ### slices -/
def soNone : So := fun _ ws => .ok none ws
def soSome (a : Se) : So := fun ρ ws => (a ρ ws).bind fun d ws1 => match d with
  | .int i => .ok (some i) ws1
  | _ => .bad
def cutG {α : Type} (xs : List α) (lo hi : Option Int) : List α := (xs.drop (HT.sIx xs.length 0 lo)).take (HT.sIx xs.length xs.length hi - HT.sIx xs.length 0 lo)
def sSlice (a : Se) (lo hi : So) : Se := fun ρ ws => (a ρ ws).bind fun x ws1 => (lo ρ ws1).bind fun l ws2 => (hi ρ ws2).bind fun u ws3 => match x with
  | .tup m => .ok (.tup (cutG m l u)) ws3
  | .fz m => .ok (.lst (cutG m l u)) ws3
  | _ => match lstOf ws3 x with
    | some m => .ok (.lst (cutG m l u)) ws3
    | none => .bad
section
variable {K : PySem.W.Frag} {X : Cx} {E : XK} {e : Expr} {te : TE} {se : Se} {pos p2 : Pos}
theorem ao_none (hK : X.K = K := by rfl) : AO K X E none tNoPart soNone := ⟨hK, po_none, fun ρ ws G H as σ Q W S P => Post.done P W rfl⟩
theorem ao_some (h : AE K X E e te se) : AO K X E (some e) (tPart te) (soSome se) := ⟨h.hK, po_some h.pe, fun ρ ws G H as σ Q W S P => h.ev ρ ws G H as σ _ W S (Post.bind P fun d ws1 v G1 H1 as1 r1 W1 rx P1 => by
  cases d with
  | int i =>
    simp only [Rep] at rx
    exact ⟨i, rx, Post.done P1 W1 rfl⟩
  | _ => exact False.elim P1)⟩
theorem Reps.cut {as : List Addr} {G : Hp} {ds : List D} {vs : List V} (h : Reps K as G ds vs) (lo hi : Option Int) : Reps K as G (cutG ds lo hi) (cutV vs lo hi) := by
  unfold cutG cutV
  rw [h.len]
  exact (h.drop _).take _
def rSl (K : PySem.W.Frag) : V → Option Int → Option Int → Hp → VK → Prop := fun x lo hi H Q => rSlL K x lo hi H Q ∨ rSlA K x lo hi H Q
variable {lo hi : Option Expr} {tl th : TO} {sl sh : So}
theorem ae_slice (he : AE K X E e te se) (hl : AO K X E lo tl sl) (hh : AO K X E hi th sh) : AE K X E (.Subscript e (.Slice lo hi none p2) pos) (tSl (rSl K) te tl th) (sSlice se sl sh) := by
  have e0 := he.hK
  subst e0
  refine ⟨rfl, pe_slice (sl_list.or sl_tupA) he.pe hl.pe hh.pe, fun ρ ws G H as σ Q W S P => he.ev ρ ws G H as σ _ W S (Post.bind P fun x ws1 v G1 H1 as1 r1 W1 rx P1 => ?_)⟩
  refine hl.ev ρ ws1 G1 H1 as1 σ _ W1 (S.up r1.pre r1.up) (Post.bind P1 fun l ws2 l' G2 H2 as2 r2 W2 rl P2 => ?_)
  cases rl
  refine hh.ev ρ ws2 G2 H2 as2 σ _ W2 ((S.up r1.pre r1.up).up r2.pre r2.up) (Post.bind P2 fun u ws3 u' G3 H3 as3 r3 W3 ru P3 => ?_)
  cases ru
  have rx3 := (rx.up r2.pre r2.up).up r3.pre r3.up
  split at P3
  · rename_i m
    have rx4 := rx3
    simp only [Rep] at rx3
    obtain ⟨a, vs, e1, e2, e3⟩ := rx3
    refine .inr ⟨a, vs, e1, .inl (.inl (W3.le _ _ e2)), fun hw => ?_, fun _ p hp => ?_⟩
    · refine Post.done P3 W3 ?_
      simp only [Rep]
      refine ⟨a, vs, rfl, e2, ?_⟩
      have : cutG m l u = m := by
        unfold cutG
        rw [e3.len, hw.1, hw.2, List.drop_zero, Nat.sub_zero, ← e3.len]
        exact List.take_length
      rw [this]
      exact e3
    · refine P3 _ _ _ as3 (Rch.new W3.le hp) (W3.new hp) ?_
      simp only [Rep]
      exact ⟨p, _, rfl, upd_same, (e3.cut l u).up (List.prefix_refl _) (Rch.new (as := as3) W3.le hp).up⟩
  · rename_i m
    simp only [Rep] at rx3
    obtain ⟨a, vs, e1, e2, e3⟩ := rx3
    refine .inl ⟨a, vs, e1, sqL_up W3.le e2, fun p hp => P3 _ _ _ as3 (Rch.new W3.le hp) (W3.new hp) ?_⟩
    simp only [Rep]
    exact ⟨p, _, rfl, upd_same, (e3.cut l u).up (List.prefix_refl _) (Rch.new (as := as3) W3.le hp).up⟩
  · split at P3
    · rename_i m hm
      obtain ⟨a, vs, e1, e2, e3⟩ := lst_rep W3 hm rx3
      refine .inl ⟨a, vs, e1, .inl (.inl e2), fun p hp => P3 _ _ _ as3 (Rch.new W3.le hp) (W3.new hp) ?_⟩
      simp only [Rep]
      exact ⟨p, _, rfl, upd_same, (e3.cut l u).up (List.prefix_refl _) (Rch.new (as := as3) W3.le hp).up⟩
    · exact False.elim P3
end
/-! ### f-strings -/
def sFmt (a : Se) : Se := fun ρ ws => (a ρ ws).bind fun x ws1 => match x with
  | .str y => if y.length ≤ 100000 then .ok (.str y) ws1 else .bad
  | .int i => if i.natAbs.log2 < 1920 then .ok (.str (toString i)) ws1 else .bad
  | _ => .bad
/-- the parts of an f-string -/
inductive AJ (K : PySem.W.Frag) (X : Cx) (E : XK) : List Expr → List TE → List Se → Prop where
  | nil : AJ K X E [] [] []
  | cons {e : Expr} {t : TE} {s : Se} {es : List Expr} {ts : List TE} {ss : List Se} (h : AE K X E e t s) (r : AJ K X E es ts ss) : AJ K X E (e :: es) (t :: ts) (s :: ss)
def sJs : List Se → Str → List (Option D) → List Ce → R D
  | [], acc, _, ws => .ok (.str acc) ws
  | s :: ss, acc, ρ, ws => (s ρ ws).bind fun x ws1 => match x with
    | .str y => if (acc ++ y).length ≤ 100000 then sJs ss (acc ++ y) ρ ws1 else .bad
    | _ => .bad
def sJoined (ss : List Se) : Se := fun ρ ws => sJs ss Str.empty ρ ws
section
variable {K : PySem.W.Frag} {X : Cx} {E : XK} {e : Expr} {te : TE} {se : Se} {pos : Pos}
theorem ae_fmt (h : AE K X E e te se) : AE K X E (.FormattedValue e (-1) none pos) (tFmt te) (sFmt se) := ⟨h.hK, pe_fmt h.pe, fun ρ ws G H as σ Q W S P => h.ev ρ ws G H as σ _ W S (Post.bind P fun d ws1 v G1 H1 as1 r1 W1 rx P1 => by
  cases d with
  | str y =>
    simp only at P1
    split at P1
    · rename_i hy
      simp only [Rep] at rx
      exact .inl ⟨y, rx, small5 hy, Post.done P1 W1 (by simp [Rep])⟩
    · exact False.elim P1
  | int i =>
    simp only at P1
    split at P1
    · rename_i hy
      simp only [Rep] at rx
      exact .inr ⟨i, rx, hy, Post.done P1 W1 (by simp [Rep])⟩
    · exact False.elim P1
  | _ => exact False.elim P1)⟩
theorem AJ.pj {es : List Expr} {ts : List TE} {ss : List Se} (h : AJ K X E es ts ss) : PJ X es ts := by
  induction h with
  | nil => exact .nil
  | cons h r ih => exact .cons h.pe ih
theorem AJ.ev {es : List Expr} {ts : List TE} {ss : List Se} (h : AJ K X E es ts ss) : ∀ (acc : Str) ρ ws G H as σ (Q : VK), Wd K G H as ws → SRep K as G ρ σ → Post K E (Rep K) G H as (sJs ss acc ρ ws) Q → tJs ts acc σ H fun out H1 => Q (.str out) H1 := by
  induction h with
  | nil => exact fun acc ρ ws G H as σ Q W S P => Post.done P W (by simp [Rep])
  | cons h r ih =>
    intro acc ρ ws G H as σ Q W S P
    refine h.ev ρ ws G H as σ _ W S (Post.bind P fun d ws1 v G1 H1 as1 r1 W1 rx P1 => ?_)
    cases d with
    | str y =>
      simp only at P1
      split at P1
      · rename_i hy
        simp only [Rep] at rx
        exact ⟨y, rx, small5 hy, ih (acc ++ y) ρ ws1 G1 H1 as1 σ Q W1 (S.up r1.pre r1.up) P1⟩
      · exact False.elim P1
    | _ => exact False.elim P1
theorem ae_joined {v1 v2 : Expr} {rest : List Expr} {ts : List TE} {ss : List Se} (hK : X.K = K) (h : AJ K X E (v1 :: v2 :: rest) ts ss) : AE K X E (.JoinedStr (v1 :: v2 :: rest) pos) (fun σ H Q => tJs ts Str.empty σ H fun out H1 => Q (.str out) H1) (sJoined ss) :=
  ⟨hK, pe_joined h.pj, fun ρ ws G H as σ Q W S P => h.ev Str.empty ρ ws G H as σ Q W S P⟩
end
/-! ### items stored -/
def tgItem (o i : Se) : Tg := fun d ρ ws => (o ρ ws).bind fun x ws1 => (i ρ ws1).bind fun k ws2 => match x, k with
  | .cell n, .int j => (match ws2[n]? with
    | some (.lst l) => (match ixN l.length j with
      | some m => .ok ρ (ws2.set n (.lst (l.set m d)))
      | none => .bad)
    | _ => .bad)
  | _, _ => .bad
section
variable {K : PySem.W.Frag} {X : Cx} {E : XK} {o i : Expr} {to ti : TE} {so si : Se} {pos : Pos}
theorem ag_item (ho : AE K X E o to so) (hi : AE K X E i ti si) (ha : ∀ v, assign (.Subscript o i pos) X.env v = (do
      let ov ← holding [v] (eval o X.env)
      let iv ← holding [v, ov] (eval i X.env)
      standAt pos
      holding [v, ov, iv] (setItem ov iv v)
      release [v, ov, iv] []) := by intro _; rfl) : AG K X E (.Subscript o i pos) (gSub to ti rSetL) [] (tgItem so si) := by
  refine ⟨ho.hK, pg_sub ho.pe hi.pe set_list ha, fun d v ρ ws G H as σ Q W S r P => ho.ev ρ ws G H as σ _ W S (Post.bind P fun x ws1 u G1 H1 as1 r1 W1 rx P1 => ?_)⟩
  have S1 := S.up r1.pre r1.up
  refine hi.ev ρ ws1 G1 H1 as1 σ _ W1 S1 (Post.bind P1 fun k ws2 w G2 H2 as2 r2 W2 rk P2 => ?_)
  split at P2
  · rename_i n j
    split at P2
    · rename_i l q
      split at P2
      · rename_i m hm
        obtain ⟨a, vs, e1, e2, e3, e4⟩ := cell_lst W2 q (rx.up r2.pre r2.up)
        simp only [Rep] at rk
        refine ⟨a, vs, j, m, e1, rk, e3, by rw [← e4.len]; exact hm, ?_⟩
        exact P2 σ G2 _ as2 (Rch.put (List.mem_of_getElem? e2)) (W2.put e2 q (fun z => by cases z) ⟨_, rfl, e4.setR (((r.up r1.pre r1.up).up r2.pre r2.up))⟩) ⟨S1.up r2.pre r2.up, Chg.refl⟩
      · exact False.elim P2
    · exact False.elim P2
  · exact False.elim P2
end
end RL
set_option Elab.async false
set_option linter.all false
set_option maxRecDepth 100000
/-! RL8: == by an own __eq__, either answer; tuples of instances. -/
namespace RL
open PySem PySem.Spec PyProof.Rows L2
section
open PySem.SeqAt AutoSeq1 MeetsSeq MeetsSeq2 MeetsSeq3 SeqRoads2
/-- == of two tuples whose items answer e, while Iv holds -/
theorem tuple_eqM {prog : Program} {w : World} {A : Around} {R : Result → Shared → Prop} (l b : Addr) (xs ys : Array Value) (n n2 : Nat) (dd dd2 : Option Addr) (sl sl2 : Array (Option Value)) (e : Nat → Bool) (Iv : Shared → Prop)
    (turn : ∀ i (h1 : i < xs.size) (h2 : i < ys.size) s, Iv s → wpAny (model prog w) A.in1 (eqBool xs[i] ys[i]) (fun r s' => r = e i ∧ Iv s') (fun er s' => R (.error er) s') s)
    (done : ∀ s, Iv s → R (.ok (.ret (.bool ((List.range (min xs.size ys.size)).all e && xs.size == ys.size)))) s) {s : Shared}
    (hl1 : s.heap.get? l = some { cls := .type "tuple", dict := dd, data := .seq xs n, slots := sl }) (hb1 : s.heap.get? b = some { cls := .type "tuple", dict := dd2, data := .seq ys n2, slots := sl2 }) (h : Iv s) :
    wpAny (model prog w) A.in1 (Builtin.«tuple.__eq__» ⟨[.ref l, .ref b], []⟩) (GQ.FinOf prog w A R) (fun er s' => R (.error er) s') s := by
  have f2 := AutoSeq1.sub_tuple_tuple
  have hZ : (xs.toList.zip ys.toList).length = min xs.size ys.size := by simp
  have h0 := h
  obtain ⟨hp, g, d, tk, os⟩ := s
  wp_walk using wpAny_loadPart' hl1, wpAny_loadPart' hb1, wpAny_forIn_list _ (fun rest bb s' => bb.1 = none ∧ Iv s' ∧ ∃ i, rest = (xs.toList.zip ys.toList).drop i ∧
    (((List.range (min xs.size ys.size)).drop i).all e && xs.size == ys.size) = ((List.range (min xs.size ys.size)).all e && xs.size == ys.size)) _
  case turn =>
    rintro ⟨y, x⟩ rest bb s' ⟨hb', hI, i, hz, hR⟩
    have hlt : i < (xs.toList.zip ys.toList).length := by
      rcases Nat.lt_or_ge i (xs.toList.zip ys.toList).length with q | q
      · exact q
      · rw [List.drop_of_length_le q] at hz
        cases hz
    have hm : i < min xs.size ys.size := hZ ▸ hlt
    have h1 : i < xs.size := by omega
    have h2 : i < ys.size := by omega
    rw [List.drop_eq_getElem_cons hlt] at hz
    injection hz with hyx hrest
    have hy : y = xs[i] := by have := congrArg Prod.fst hyx; simpa using this
    have hx : x = ys[i] := by have := congrArg Prod.snd hyx; simpa using this
    subst hy hx
    have hd : (List.range (min xs.size ys.size)).drop i = i :: (List.range (min xs.size ys.size)).drop (i + 1) := by simp [List.drop_eq_getElem_cons, hm]
    rw [hd, List.all_cons] at hR
    refine wpAny_bind (wpAny_mono (turn i h1 h2 s' hI) (fun r s2 q2 => ?_) fun _ _ x => x)
    obtain ⟨hr, q2⟩ := q2
    subst hr
    cases hy : e i with
    | true =>
      rw [hy] at hR
      wp_walk
      exact ⟨rfl, q2, i + 1, hrest, by simpa using hR⟩
    | false =>
      rw [hy] at hR
      wp_walk
      have := done s2 q2
      rw [← hR] at this
      simpa using this
  case fin =>
    rintro ⟨b1, b2⟩ s' ⟨hb', hI, i, hz, hR⟩
    simp only at hb'
    subst hb'
    have hge : min xs.size ys.size ≤ i := by
      rcases Nat.lt_or_ge i (xs.toList.zip ys.toList).length with q | q
      · rw [List.drop_eq_getElem_cons q] at hz
        cases hz
      · exact hZ ▸ q
    rw [List.drop_of_length_le (by simpa using hge)] at hR
    have := done s' hI
    rw [← hR] at this
    wp_walk
    simpa [Builtin.Tuple.tupleCompareSizes] using this
  case h =>
    exact ⟨rfl, h0, 0, rfl, by simp⟩
end
/-! ### answers of == -/
abbrev Qs := D → D → List Ce → Option Bool
def EqM (X : Cx) (n : Nat) (q : Qs) : Prop := ∀ A pins s σ H G as ws dx dy x y u v b, Sub X n A → Inv X pins σ H s → RelV x u → RelV y v → Wd X.K G H as ws → Rep X.K as G dx x → Rep X.K as G dy y → q dx dy ws = some b →
  wpAny (model X.prog X.w) A (eqBool u v) (fun r s' => r = b ∧ ∃ G' H' as', Inv X pins σ H' s' ∧ Rch G H as G' H' as' ∧ Wd X.K G' H' as' ws) X.xe s
def RcM (X : Cx) (n : Nat) (op : CmpOp) (q : Qs) : Prop := ∀ A pins s σ H G as ws dx dy x y u v b, Sub X n A → Inv X pins σ H s → RelV x u → RelV y v → Wd X.K G H as ws → Rep X.K as G dx x → Rep X.K as G dy y → q dx dy ws = some b →
  wpAny (model X.prog X.w) A (richCompare op u v) (fun r s' => r = .bool b ∧ ∃ G' H' as', Inv X pins σ H' s' ∧ Rch G H as G' H' as' ∧ Wd X.K G' H' as' ws) X.xe s
/-- what an own __eq__ tells of an instance of c and one of c2 -/
def qIns (c c2 : Str) (m : Mf) : Qs := fun dx dy ws => if (insOf ws c dx).isSome = true ∧ (insOf ws c2 dy).isSome = true then (match m [dx, dy] ws with
    | .ok (.bl b) ws' => if ws' = ws then some b else none
    | _ => none)
  else none
theorem qIns_some {c c2 : Str} {m : Mf} {dx dy : D} {ws : List Ce} {b : Bool} (h : qIns c c2 m dx dy ws = some b) : (∃ k, insOf ws c dx = some k) ∧ (∃ k, insOf ws c2 dy = some k) ∧ m [dx, dy] ws = .ok (.bl b) ws := by
  unfold qIns at h
  split at h
  · rename_i hh
    refine ⟨Option.isSome_iff_exists.mp hh.1, Option.isSome_iff_exists.mp hh.2, ?_⟩
    split at h
    · rename_i b' ws' e
      split at h
      · rename_i hw
        cases h
        rw [e, hw]
      · cases h
    · cases h
  · cases h
section
variable {X : Cx} {n : Nat} {CX : CXT} {f : Addr} {fd : FuncData} {ps : List Str} {E : XK} {c c2 : Str} {m : Mf}
/-- the def __eq__ itself, called -/
theorem eq_run (F : FnOk X.prog X.w X.K X.mg X.base CX n f fd ps (spM X.K m)) (hb : Binds X.K fd ps []) (hx : Passes CX X E) {A : Around} {pins : List (Addr × Obj)} {s : Shared} {σ : L2.St} {H G : Hp} {as : List Addr} {ws : List Ce} {dx dy : D} {a b : Addr} {r : Bool}
    {Q : Value → Shared → Prop} (sb : Sub X n A) (I : Inv X pins σ H s) (W : Wd X.K G H as ws) (rx : Rep X.K as G dx (.ref a)) (ry : Rep X.K as G dy (.ref b)) (hm : m [dx, dy] ws = .ok (.bl r) ws)
    (k : ∀ s' G' H' as', Inv X pins σ H' s' → Rch G H as G' H' as' → Wd X.K G' H' as' ws → Q (.bool r) s') : wpAny (model X.prog X.w) A (call (.ref f) [.ref a, .ref b]) Q X.xe s := by
  have hsp : spM X.K m [.ref a, .ref b] H (fun v H' => v = .bl r ∧ ∃ G' as', Rch G H as G' H' as' ∧ Wd X.K G' H' as' ws) E := by
    refine ⟨G, as, ws, [dx, dy], W, Reps.cons rx (Reps.one ry), ?_⟩
    rw [hm]
    exact fun v G' H' as' q w rv => ⟨by simpa [Rep] using rv, G', as', q, w⟩
  have e0 : Env0 X.prog X.w X.K X.mg X.base A X.stack s H := by
    have e := I.env0
    exact ⟨by rw [sb.fr]; exact e.frames, e.mod, e.bs, e.bsz, e.funs, e.frf, e.hok, e.bare⟩
  have hl := F.len _ _ _ _ hsp
  have r2 : Vals [V.ref a, V.ref b] [Value.ref a, Value.ref b] := .cons rfl (.cons rfl .nil)
  refine wpAny_call (codeAny_mono (F.run A X.stack s H ⟨[.ref a, .ref b], []⟩ [.ref a, .ref b] [.ref a, .ref b] _ E sb.room e0 (by
    have := hb s [.ref a, .ref b] I.kIn (by simpa using hl)
    simpa using this) r2 hsp) fun r' s' hq => ?_)
  cases r' with
  | error e => exact hx pins σ H s e s' I hq
  | ok fl =>
    cases fl with
    | ret w =>
      obtain ⟨z, H', I', rz, ez, G', as', ex, w'⟩ := I.after hq
      subst ez
      obtain ⟨⟩ := rz
      exact k s' G' H' as' I' ex w'
    | next => exact False.elim hq
    | brk => exact False.elim hq
    | cont => exact False.elim hq
theorem ins_two {pins : List (Addr × Obj)} {s : Shared} {σ : L2.St} {H G : Hp} {as : List Addr} {ws : List Ce} {d : D} {x : V} {u : Value} {k : List Str × List D} (I : Inv X pins σ H s) (rx : RelV x u) (W : Wd X.K G H as ws) (r : Rep X.K as G d x) (e : insOf ws c d = some k) :
    ∃ a, x = .ref a ∧ u = .ref a ∧ ∃ ox od, PySem.W.InstAt s.heap a ox (He.ga X.K c) (some od) := by
  obtain ⟨ks, l⟩ := k
  obtain ⟨a, dx, vs, e1, e2, e3, e4⟩ := ins_rep W e r
  subst e1
  cases rx
  obtain ⟨mA, J, _⟩ := ins_get I.hok e2
  obtain ⟨od, J, _⟩ := J.look
  exact ⟨a, rfl, rfl, _, od, J⟩
theorem rcM_ins (F : FnOk X.prog X.w X.K X.mg X.base CX n f fd ps (spM X.K m)) (hs : PySem.W.findIn X.K (.ref (He.ga X.K c)) "__eq__" = some (some (.ref f))) (hf : PySem.W.isFn X.K (.ref f) = true) (hb : Binds X.K fd ps []) (hx : Passes CX X E)
    (hn : PySem.W.notFirst X.K (He.ga X.K c) (.ref (He.ga X.K c2)) = true) : RcM X n .Eq (qIns c c2 m) := by
  intro A pins s σ H G as ws dx dy x y u v b sb I rx ry W r1 r2 h
  obtain ⟨⟨k1, h1⟩, ⟨k2, h2⟩, h3⟩ := qIns_some h
  obtain ⟨a, e1, e2, oa, od, J⟩ := ins_two I rx W r1 h1
  obtain ⟨a', e1', e2', oa', od', J'⟩ := ins_two I ry W r2 h2
  subst e1 e2 e1' e2'
  obtain ⟨mm, hF⟩ := I.fr
  refine PySem.W.cmp_K (op := .Eq) (tb := .ref (He.ga X.K c2)) sb.room.units0 hF I.ok.mod.kin J J'.type hn hs hf ?_
  exact eq_run F hb hx sb I W r1 r2 h3 fun s' G' H' as' I' q w => ⟨rfl, G', H', as', I', q, w⟩
/-! != by the own __eq__ -/
theorem ifBound_objNe {M : Model} {A : Around} {E' : Value → Shared → Prop} {s : Shared} {K : PySem.W.Frag} {x C : Addr} {ox : Obj} {od : Option Obj} {args : List Value} {Q : Option Value → Shared → Prop} (Xk : K.In s.heap) (I : PySem.W.InstAt s.heap x ox C od)
    (hs : PySem.W.findIn K (.ref C) "__ne__" = some (some (.builtin "object.__ne__"))) (h : wpAny M A (call (.builtin "object.__ne__") (.ref x :: args)) (fun v => Q (some v)) E' s) : wpAny M A (callSpecialIfBound? (.ref x) "__ne__" args) Q E' s := by
  simp only [callSpecialIfBound?, bindSpecialIfBound?]
  refine wpAny_holding (wpAny_bind (wpAny_bind (wpAny_bind (I.type.here ((PySem.W.looks_findIn Xk hs).here ?_)))))
  refine wpAny_bind (wpAny_askSetting (wpAny_ite ?_))
  have last : wpAny M A (call (.builtin "object.__ne__") ([.ref x] ++ args) >>= fun v => pure (some v)) Q E' s := wpAny_bind (wpAny_mono h (fun v s' q => wpAny_pure q) fun _ _ q => q)
  split
  · exact wpAny_bind (wpAny_of_eq (PySem.F.cmp_object.ne.bind _) (wpAny_pure (by exact last)))
  · exact wpAny_tryCatch (wpAny_bind (wpAny_of_eq (PySem.F.cmp_object.ne.bind _) (wpAny_pure (by exact last))))
theorem cmp_one {prog : Program} {w : World} {A : Around} {E' : Value → Shared → Prop} {s : Shared} {K : PySem.W.Frag} {x C L : Addr} {h₀ : Heap} {mm : Str → Option Value} {ox : Obj} {od : Option Obj} {b tb : Value} {op : CmpOp} {Q : Value → Shared → Prop} (hu : A.units < cLine)
    (Fr' : Fr h₀ L s.heap mm) (X₀ : K.In h₀) (I : PySem.W.InstAt s.heap x ox C od) (hb : PySem.W.Looks (model prog w) s.heap (typeOf b) tb) (hn : PySem.W.notFirst K C tb = true)
    (one : wpAny (model prog w) A (tryCompare (.ref x) (cmpInfo op).2.1 b) (fun r s' => ∃ v, r = some v ∧ Q v s') E' s) : wpAny (model prog w) A (richCompare op (.ref x) b) Q E' s := by
  have Xk := X₀.keeps Fr'.keep
  unfold richCompare
  simp only [oneThing_ref]
  refine wpAny_holding (wpAny_bind (wpAny_cRoomFor hu (wpAny_bind (I.type.here (wpAny_bind (hb.here ?_))))))
  split
  · rename_i q
    have e : PySem.W.subIn K tb (.ref C) = some false := by
      rcases Bool.or_eq_true_iff.mp hn with z | z
      · rw [beq_iff_eq.mp z] at q
        simp at q
      · exact beq_iff_eq.mp z
    refine wpAny_bind ((PySem.W.looks_subIn Xk e).here ?_)
    simp only [Bool.false_eq_true, if_false]
    exact wpAny_bind (wpAny_mono one (fun r s' ⟨v, e1, hq⟩ => by subst e1; exact wpAny_pure hq) fun _ _ z => z)
  · refine wpAny_bind (wpAny_pure ?_)
    simp only [Bool.false_eq_true, if_false]
    exact wpAny_bind (wpAny_mono one (fun r s' ⟨v, e1, hq⟩ => by subst e1; exact wpAny_pure hq) fun _ _ z => z)
def qNot (q : Qs) : Qs := fun x y ws => (q x y ws).map (!·)
theorem rcM_ne (F : FnOk X.prog X.w X.K X.mg X.base CX n f fd ps (spM X.K m)) (hs : PySem.W.findIn X.K (.ref (He.ga X.K c)) "__eq__" = some (some (.ref f))) (hf : PySem.W.isFn X.K (.ref f) = true) (hb : Binds X.K fd ps []) (hx : Passes CX X E)
    (hn : PySem.W.notFirst X.K (He.ga X.K c) (.ref (He.ga X.K c2)) = true) (hne : PySem.W.findIn X.K (.ref (He.ga X.K c)) "__ne__" = some (some (.builtin "object.__ne__"))) (ho : PySem.W.mroIn X.K (He.ga X.K c) (.type "object") = some true) :
    RcM X (n + 1) .NotEq (qNot (qIns c c2 m)) := by
  intro A pins s σ H G as ws dx dy x y u v b sb I rx ry W r1 r2 h
  obtain ⟨b0, h0, hb0⟩ := Option.map_eq_some_iff.mp h
  obtain ⟨⟨k1, h1⟩, ⟨k2, h2⟩, h3⟩ := qIns_some h0
  obtain ⟨a, e1, e2, oa, od, J⟩ := ins_two I rx W r1 h1
  obtain ⟨a', e1', e2', oa', od', J'⟩ := ins_two I ry W r2 h2
  subst e1 e2 e1' e2' hb0
  obtain ⟨mm, hF⟩ := I.fr
  refine cmp_one (op := .NotEq) (tb := .ref (He.ga X.K c2)) sb.room.units0 hF I.ok.mod.kin J J'.type hn ?_
  unfold tryCompare
  refine wpAny_bind (ifBound_objNe I.kIn J hne ?_)
  refine wpAny_call (codeAny_call_builtin PySem.F.cmp_object.ne.plain PySem.F.cmpEntry_ne (PySem.W.check_slot PySem.F.cmpKind_ne PySem.F.cmpSplit_ne (J.type.andThen (PySem.W.looks_mroIn I.kIn ho)) (PySem.F.cmpArgs_ne _ _) ?_))
  have eqc : ∀ {Q : Option Value → Shared → Prop}, (∀ s' G' H' as', Inv X pins σ H' s' → Rch G H as G' H' as' → Wd X.K G' H' as' ws → Q (some (.bool b0)) s') → wpAny (model X.prog X.w) A.in1 (callSpecialIfBound? (.ref a) "__eq__" [.ref a']) Q
      (fun er s' => wants (fun v s' => v ≠ .notImplemented ∧ v = .bool (!b0) ∧ ∃ G' H' as', Inv X pins σ H' s' ∧ Rch G H as G' H' as' ∧ Wd X.K G' H' as' ws) X.xe (.error er) s') s := fun k =>
    PySem.W.ifBound_K I.kIn J hs hf (eq_run F hb hx sb.in1 I W r1 r2 h3 k)
  unfold Builtin.«object.__ne__»
  repeat (first | with_reducible refine wpAny_cRoomFor sb.in1.room.units0 ?_ | with_reducible refine wpAny_bind (eqc fun s' G' H' as' I' q w => ?_) | wp_step)
  exact ⟨_, rfl, rfl, G', H', as', I', q, w⟩
end
/-! data has one shape -/
section
variable {K : PySem.W.Frag} {as : List Addr} {G : Hp}
mutual
theorem Rep.uniq : ∀ {d e : D} {v : V}, (toPy0 d).isSome = true → (toPy0 e).isSome = true → Rep K as G d v → Rep K as G e v → d = e
  | .non, e, v, h1, h2, r1, r2 => by
    cases e <;> simp_all [toPy0, Rep]
  | .bl b, e, v, h1, h2, r1, r2 => by
    cases e <;> simp_all [toPy0, Rep]
  | .int b, e, v, h1, h2, r1, r2 => by
    cases e <;> simp_all [toPy0, Rep]
  | .str b, e, v, h1, h2, r1, r2 => by
    cases e <;> simp_all [toPy0, Rep]
  | .tup l, e, v, h1, h2, r1, r2 => by
    cases e with
    | tup m =>
      simp only [Rep] at r1 r2
      obtain ⟨a, vs, e1, e2, e3⟩ := r1
      obtain ⟨a', vs', f1, f2, f3⟩ := r2
      rw [e1] at f1
      cases f1
      rw [e2] at f2
      cases f2
      rw [Reps.uniq (by simpa [toPy0] using h1) (by simpa [toPy0] using h2) e3 f3]
    | lst m =>
      simp only [Rep] at r1 r2
      obtain ⟨a, vs, e1, e2, e3⟩ := r1
      obtain ⟨a', vs', f1, f2, f3⟩ := r2
      rw [e1] at f1
      cases f1
      rw [e2] at f2
      cases f2
    | _ => simp_all [toPy0, Rep] <;> (obtain ⟨a, e1, _⟩ := r1; first | (rw [e1] at r2; cases r2) | (cases e1))
  | .lst l, e, v, h1, h2, r1, r2 => by
    cases e with
    | lst m =>
      simp only [Rep] at r1 r2
      obtain ⟨a, vs, e1, e2, e3⟩ := r1
      obtain ⟨a', vs', f1, f2, f3⟩ := r2
      rw [e1] at f1
      cases f1
      rw [e2] at f2
      cases f2
      rw [Reps.uniq (by simpa [toPy0] using h1) (by simpa [toPy0] using h2) e3 f3]
    | tup m =>
      simp only [Rep] at r1 r2
      obtain ⟨a, vs, e1, e2, e3⟩ := r1
      obtain ⟨a', vs', f1, f2, f3⟩ := r2
      rw [e1] at f1
      cases f1
      rw [e2] at f2
      cases f2
    | _ => simp_all [toPy0, Rep] <;> (obtain ⟨a, e1, _⟩ := r1; first | (rw [e1] at r2; cases r2) | (cases e1))
  | .ins _ _ _, e, v, h1, h2, r1, r2 => by simp [toPy0] at h1
  | .cell _, e, v, h1, h2, r1, r2 => by simp [toPy0] at h1
  | .cls _, e, v, h1, h2, r1, r2 => by simp [toPy0] at h1
  | .fz _, e, v, h1, h2, r1, r2 => by simp [toPy0] at h1
  | .exc _ _ _, e, v, h1, h2, r1, r2 => by simp [toPy0] at h1
  | .dct _ _, e, v, h1, h2, r1, r2 => by simp [toPy0] at h1
  | .dcT _ _, e, v, h1, h2, r1, r2 => by simp [toPy0] at h1
theorem Reps.uniq : ∀ {ds es : List D} {vs : List V}, (toPys0 ds).isSome = true → (toPys0 es).isSome = true → Reps K as G ds vs → Reps K as G es vs → ds = es
  | [], es, vs, h1, h2, r1, r2 => by
    rw [r1.unnil] at r2
    have := r2.len
    cases es with
    | nil => rfl
    | cons _ _ => simp at this
  | d :: ds, es, vs, h1, h2, r1, r2 => by
    obtain ⟨v, us, e1, e2, e3⟩ := r1.uncons
    subst e1
    cases es with
    | nil =>
      have := r2.unnil
      cases this
    | cons e es =>
      obtain ⟨v', us', f1, f2, f3⟩ := r2.uncons
      cases f1
      have g : ∀ {a : D} {as : List D}, (toPys0 (a :: as)).isSome = true → (toPy0 a).isSome = true ∧ (toPys0 as).isSome = true := by
        intro a as q
        cases h : toPy0 a with
        | none => simp [toPys0, h] at q
        | some p =>
          cases h' : toPys0 as with
          | none => simp [toPys0, h, h'] at q
          | some p => simp
      rw [Rep.uniq (g h1).1 (g h2).1 e2 f2, Reps.uniq (g h1).2 (g h2).2 e3 f3]
end
theorem zip_inj : ∀ {ks ms : List Str} {vs us : List V}, ks.length = vs.length → ms.length = us.length → ks.zip vs = ms.zip us → ks = ms ∧ vs = us
  | [], [], [], [], _, _, _ => ⟨rfl, rfl⟩
  | [], [], _ :: _, _, h, _, _ => by cases h
  | [], [], [], _ :: _, _, h, _ => by cases h
  | [], m :: ms, [], [], _, h, _ => by cases h
  | [], m :: ms, [], u :: us, _, _, h => by cases h
  | [], m :: ms, _ :: _, _, h, _, _ => by cases h
  | k :: ks, _, [], _, h, _, _ => by cases h
  | k :: ks, [], v :: vs, [], _, _, h => by cases h
  | k :: ks, [], v :: vs, _ :: _, _, h, _ => by cases h
  | k :: ks, m :: ms, v :: vs, [], _, h, _ => by cases h
  | k :: ks, m :: ms, v :: vs, u :: us, h1, h2, h => by
    have h' : ((k, v) :: ks.zip vs) = ((m, u) :: ms.zip us) := h
    injection h' with a b
    injection a with a1 a2
    obtain ⟨q1, q2⟩ := zip_inj (by simpa using h1) (by simpa using h2) b
    exact ⟨by rw [a1, q1], by rw [a2, q2]⟩
end
/-- as q tells, of two plain instances of c; what is one is equal to itself -/
def qOne (c : Str) (q : Qs) : Qs := fun dx dy ws => match dx, dy with
  | .ins c1 ks l, .ins c2 ms k => if c1 = c ∧ c2 = c ∧ (toPys0 l).isSome = true ∧ (toPys0 k).isSome = true then (q dx dy ws).bind fun b => if ks = ms ∧ l = k ∧ b = false then none else some b else none
  | _, _ => none
/-- the items of two tuples -/
def qAll (q : Qs) (ws : List Ce) : List D → List D → Option Bool
  | [], [] => some true
  | [], _ :: _ => some false
  | _ :: _, [] => some false
  | a :: l, b :: m => (q a b ws).bind fun r => (qAll q ws l m).map fun z => r && z
def qTup (q : Qs) : Qs := fun dx dy ws => match dx, dy with
  | .tup l, .tup m => qAll q ws l m
  | _, _ => none
theorem qAll_some {q : Qs} {ws : List Ce} : ∀ {l m : List D} {b : Bool}, qAll q ws l m = some b → (∀ (i : Nat) (x y : D), l[i]? = some x → m[i]? = some y → q x y ws = some ((q x y ws).getD false)) ∧
    b = ((List.range (min l.length m.length)).all (fun i => (q (l.getD i .non) (m.getD i .non) ws).getD false) && l.length == m.length)
  | [], [], b, h => by
    cases h
    exact ⟨fun i x y hx => by simp at hx, rfl⟩
  | [], _ :: _, b, h => by
    cases h
    refine ⟨fun i x y hx => by simp at hx, ?_⟩
    simp
  | _ :: _, [], b, h => by
    cases h
    refine ⟨fun i x y _ hx => by simp at hx, ?_⟩
    simp
  | a :: l, c :: m, b, h => by
    simp only [qAll, Option.bind_eq_some_iff, Option.map_eq_some_iff] at h
    obtain ⟨r, h1, z, h2, h3⟩ := h
    obtain ⟨k1, k2⟩ := qAll_some h2
    refine ⟨fun i x y hx hy => ?_, ?_⟩
    · cases i with
      | zero =>
        simp at hx hy
        subst hx hy
        rw [h1] <;> rfl
      | succ i =>
        simp at hx hy
        exact k1 i x y hx hy
    · rw [← h3, k2]
      have e : min (a :: l).length (c :: m).length = min l.length m.length + 1 := by simp
      rw [e, List.range_succ_eq_map, List.all_cons, List.all_map]
      have e2 : ((a :: l).length == (c :: m).length) = (l.length == m.length) := by simp
      rw [e2]
      simp only [List.getD_cons_zero, h1, Option.getD_some, Bool.and_assoc]
      rfl
section
variable {X : Cx} {n : Nat} {q : Qs} {c : Str}
theorem eqM_one (h : RcM X n .Eq q) : EqM X n (qOne c q) := by
  intro A pins s σ H G as ws dx dy x y u v b sb I rx ry W r1 r2 e
  unfold qOne at e
  split at e
  · rename_i c1 ks l c2 ms k
    split at e
    · rename_i hh
      obtain ⟨g1, g2, g3, g4⟩ := hh
      subst g1 g2
      obtain ⟨b0, h1, h2⟩ := Option.bind_eq_some_iff.mp e
      have r1' := r1
      have r2' := r2
      simp only [Rep] at r1' r2'
      obtain ⟨a, da, vs, e1, e2, e3, e4⟩ := r1'
      obtain ⟨a', da', us, f1, f2, f3, f4⟩ := r2'
      subst e1 f1
      cases rx
      cases ry
      have hb : b0 = b := by
        split at h2
        · cases h2
        · exact Option.some.inj h2
      subst hb
      by_cases hab : a = a'
      · subst hab
        rw [e2] at f2
        injection f2 with f2
        injection f2 with _ _ f2
        obtain ⟨z1, z2⟩ := zip_inj (by rw [e3, e4.len]) (by rw [f3, f4.len]) f2
        subst z2
        have z3 := Reps.uniq g3 g4 e4 f4
        have hb : b0 = true := by
          cases b0 with
          | true => rfl
          | false =>
            rw [if_pos ⟨z1, z3, rfl⟩] at h2
            cases h2
        subst hb
        exact SeqAt.EqAt.same (A := A) (s := s) (.ref a) X.prog X.w X.xe _ ⟨rfl, G, H, as, I, Rch.refl, W⟩
      · refine GQ.eqBool_refG hab (wpAny_mono (h A pins s σ H G as ws _ _ (.ref a) (.ref a') _ _ b0 sb I rfl rfl W r1 r2 h1) (fun r s' z => ?_) fun _ _ z => z)
        obtain ⟨z1, z2⟩ := z
        exact ⟨b0, z1, rfl, z2⟩
    · cases e
  · cases e
theorem rcM_tup (h : EqM X n q) : RcM X (n + 1) .Eq (qTup q) := by
  intro A pins s σ H G as ws dx dy x y u v b sb I rx ry W r1 r2 e
  unfold qTup at e
  split at e
  · rename_i l m
    obtain ⟨k1, k2⟩ := qAll_some e
    simp only [Rep] at r1 r2
    obtain ⟨a, vs, e1, e2, e3⟩ := r1
    obtain ⟨a', us, f1, f2, f3⟩ := r2
    subst e1 f1
    cases rx
    cases ry
    obtain ⟨its, t1, t2, t3⟩ := I.tuple (.inl (.inl (W.le _ _ e2)))
    obtain ⟨its2, t1', t2', t3'⟩ := I.tuple (.inl (.inl (W.le _ _ f2)))
    have n1 : its.toArray.size = l.length := by rw [List.size_toArray, ← t1.length, e3.len]
    have n2 : its2.toArray.size = m.length := by rw [List.size_toArray, ← t1'.length, f3.len]
    obtain ⟨⟨cls, dd, data, sl⟩, ho, hc, nn, hd⟩ := id t2
    obtain ⟨⟨cls2, dd2, data2, sl2⟩, ho2, hc2, nn2, hd2⟩ := id t2'
    simp only at hc hd hc2 hd2
    subst hc hd hc2 hd2
    refine wpAny_richCompare_same_room (op := .Eq) ⟨_, ho, rfl⟩ ⟨_, ho2, rfl⟩ F.slot_tuple_eq (GQ.call_here F.slot_tuple_eq ⟨_, ho, rfl⟩ F.entry_tuple_eq (F.args_tuple_eq_2 _ _) ?_) sb.room.units0
    refine tuple_eqM (R := wants (fun v s' => v ≠ .notImplemented ∧ v = .bool b ∧ ∃ G' H' as', Inv X pins σ H' s' ∧ Rch G H as G' H' as' ∧ Wd X.K G' H' as' ws) X.xe) a a' its.toArray its2.toArray nn nn2 dd dd2 sl sl2 (fun i => (q (l.getD i .non) (m.getD i .non) ws).getD false)
      (fun s' => ∃ G' H' as', Inv X pins σ H' s' ∧ Rch G H as G' H' as' ∧ Wd X.K G' H' as' ws) (fun i h1 h2 s' hI => ?_) (fun s' hI => ?_) ho ho2 ⟨G, H, as, I, Rch.refl, W⟩
    · obtain ⟨G1, H1, as1, I1, c1, W1⟩ := hI
      have hi1 : i < l.length := by omega
      have hi2 : i < m.length := by omega
      obtain ⟨x1, x2, x3⟩ := e3.at hi1
      obtain ⟨y1, y2, y3⟩ := f3.at hi2
      obtain ⟨w1, w2, w3⟩ := t1.get x2
      obtain ⟨z1, z2, z3⟩ := t1'.get y2
      have q1 : its.toArray[i] = w1 := by
        have := List.getElem?_eq_some_iff.mp w2
        simpa using this.2
      have q2 : its2.toArray[i] = z1 := by
        have := List.getElem?_eq_some_iff.mp z2
        simpa using this.2
      rw [q1, q2]
      have hq := k1 i l[i] m[i] (List.getElem?_eq_getElem hi1) (List.getElem?_eq_getElem hi2)
      have hl : l.getD i .non = l[i] := by simp [List.getD, hi1]
      have hm : m.getD i .non = m[i] := by simp [List.getD, hi2]
      refine wpAny_mono (h A.in1 pins s' σ H1 G1 as1 ws _ _ _ _ _ _ _ sb.in1 I1 w3 z3 W1 (x3.up c1.pre c1.up) (y3.up c1.pre c1.up) hq) (fun r s2 z => ?_) fun _ _ z => z
      obtain ⟨z1, G2, H2, as2, I2, c2, W2⟩ := z
      exact ⟨by rw [z1, hl, hm], G2, H2, as2, I2, c1.trans c2, W2⟩
    · refine ⟨(fun z => nomatch z), ?_, hI⟩
      rw [k2, n1, n2]
  · cases e
/-- the operator -/
def rQ (K : PySem.W.Frag) (q : Qs) : R2 := fun x y H Q => ∃ G as ws dx dy b, Wd K G H as ws ∧ Rep K as G dx x ∧ Rep K as G dy y ∧ q dx dy ws = some b ∧ ∀ G' H' as', Rch G H as G' H' as' → Wd K G' H' as' ws → Q (.bl b) H'
theorem op_q {op : CmpOp} (h : RcM X n op q) (hr : Room n X.A) (ho : ∀ a b, compareOp op a b = richCompare op a b) : OpR X (compareOp op) (rQ X.K q) := by
  intro pins s σ H x y v u Q I rx ry hq
  obtain ⟨G, as, ws, dx, dy, b, W, r1, r2, e, k⟩ := hq
  rw [ho]
  refine wpAny_mono (h X.A pins s σ H G as ws dx dy x y v u b ⟨hr, rfl⟩ I rx ry W r1 r2 e) (fun r s' z => ?_) fun _ _ z => z
  obtain ⟨z1, G', H', as', I', c', W'⟩ := z
  subst z1
  exact ⟨.bl b, H', I', rfl, k G' H' as' c' W'⟩
def fQ (q : Qs) : List Ce → D → D → Option D := fun ws x y => (q x y ws).map .bl
theorem od_q {K : PySem.W.Frag} : OpD K (rQ K q) (fQ q) := fun ws G H as x y d e z Q W rx ry ef k => by
  obtain ⟨b, h1, h2⟩ := Option.map_eq_some_iff.mp ef
  subst h2
  exact ⟨G, as, ws, d, e, b, W, rx, ry, h1, fun G' H' as' r w => k _ G' H' as' r w (by simp [Rep])⟩
end
end RL
set_option Elab.async false
set_option linter.all false
set_option maxRecDepth 100000
/-! RL9: operators, calls and subscripts that an own class answers; isinstance; new instances; properties; classmethods. -/
namespace RL
open PySem PySem.Spec PyProof.Rows L2
variable [kd : KdC]
open PySem.W PySem.Calls in
/-- x op b by x's method, b of a built-in type -/
theorem bin_own {prog : Program} {w : World} {A : Around} {E' : Value → Shared → Prop} {s : Shared} {K : Frag} {x C L f : Addr} {h₀ : Heap} {mm : Str → Option Value} {ox : Obj} {od : Option Obj} {T : String} {op : Operator} {b : Value} {fo ro rc : Option Value} {Q : Value → Shared → Prop}
    (Fr' : Fr h₀ L s.heap mm) (X₀ : K.In h₀) (I : InstAt s.heap x ox C od) (tb : Looks (model prog w) s.heap (typeOf b) (.type T)) (sf : selfFirst K C = true) (at1 : findIn K (.ref C) (PySem.dunder op.info.2) = some (some (.ref f))) (fn : isFn K (.ref f) = true)
    (at2 : findIn K (.ref C) (dunderR op.info.2) = some rc) (hp : rc = none ∨ ∃ g : Addr, rc = some (.ref g)) (t1 : findIn K (.type T) (PySem.dunder op.info.2) = some fo) (t2 : findIn K (.type T) (dunderR op.info.2) = some ro) (sub : subIn K (.type T) (.ref C) = some false)
    (h : wpAny (model prog w) A (call (.ref f) [.ref x, b]) (PySem.W.CmpBack Q) E' s) : wpAny (model prog w) A (binaryOp op (.ref x) b) Q E' s := by
  have Xk := X₀.keeps Fr'.keep
  obtain ⟨cd, rest, c1, c2⟩ := ksp_first sf
  rcases hi : op.info with ⟨sym, nm⟩
  rw [hi] at at1 at2 t1 t2
  dsimp only at at1 at2 t1 t2
  have one := ksp_try Xk I at1 fn h
  obtain ⟨hh, g, d, tt, os⟩ := s
  have K1 : Looks (model prog w) hh (typeOf (.ref x)) (.ref C) := I.type
  have K2 : Looks (model prog w) hh (typeOf b) (.type T) := tb
  have K3 := fills_K (M := model prog w) Xk c1 c2 at1
  have K4 := ksp_fillsT (M := model prog w) Xk t1 t2
  have K5 : Looks (model prog w) hh (isSubtype (.type T) (.ref C)) false := looks_subIn Xk sub
  have K6 := ksp_inPy (M := model prog w) Xk at1 at2 hp
  have K7 : Looks (model prog w) hh (numberSlotInPython (.type T) nm) false := Looks.of_pure rfl
  have K8 : Looks (model prog w) hh (typeLookup (.type T) (dunderR nm)) ro := looks_findIn Xk t2
  generalize ((fo.isSome && !isSeqSlot fo) || (ro.isSome && !isSeqSlot ro)) = right at K4
  have ne : (Value.ref C == Value.type T) = false := Bool.eq_false_iff.mpr fun q => by cases beq_iff_eq.mp q
  simp only [binaryOp, hi]
  refine wpAny_holding (wpAny_bind ?_)
  unfold binaryOp1
  refine wpAny_bind (K1.at (wpAny_bind (K2.at (wpAny_bind (K3.at ?_)))))
  simp only [ne, Bool.false_eq_true, if_false]
  cases right with
  | false =>
    ksp_lk
    refine wpAny_mono one (fun r s' ⟨v, e1, hq⟩ => ?_) fun _ _ e => e
    subst e1
    ksp_lk
    exact hq
  | true =>
    ksp_lk
    refine wpAny_mono one (fun r s' ⟨v, e1, hq⟩ => ?_) fun _ _ e => e
    subst e1
    ksp_lk
    exact hq
/-- the types of values that are told by their form -/
def tyN : D → Option String
  | .int _ => some "int"
  | .tup _ => some "tuple"
  | .str _ => some "str"
  | .bl _ => some "bool"
  | _ => none
theorem tyN_looks {X : Cx} {pins : List (Addr × Obj)} {s : Shared} {σ : L2.St} {H G : Hp} {as : List Addr} {ws : List Ce} {d : D} {x : V} {u : Value} {T : String} {M : Model} (I : Inv X pins σ H s) (rx : RelV x u) (W : Wd X.K G H as ws) (r : Rep X.K as G d x) (e : tyN d = some T) :
    PySem.W.Looks M s.heap (typeOf u) (.type T) := by
  cases d <;> simp only [tyN] at e <;> cases e
  case int i =>
    simp only [Rep] at r
    subst r
    obtain ⟨t, rfl⟩ := rx
    exact PySem.W.Looks.of_pure rfl
  case bl i =>
    simp only [Rep] at r
    subst r
    obtain rfl : u = Value.bool i := rx
    exact PySem.W.Looks.of_pure rfl
  case str i =>
    simp only [Rep] at r
    subst r
    obtain ⟨t, rfl⟩ := rx
    exact PySem.W.Looks.of_pure rfl
  case tup l =>
    simp only [Rep] at r
    obtain ⟨a, vs, e1, e2, e3⟩ := r
    subst e1
    obtain rfl : u = Value.ref a := rx
    obtain ⟨its, _, ⟨o, ho, hc, _⟩, _⟩ := I.tuple (.inl (.inl (W.le _ _ e2)))
    exact hc ▸ (PySem.W.Looks.ld ho).andThen .now
section
variable {X : Cx} {n : Nat} {CX : CXT} {f : Addr} {fd : FuncData} {ps : List Str} {E : XK} {c mth : Str} {m : Mf}
/-- an own def called from below -/
theorem own_run (F : FnOk X.prog X.w X.K X.mg X.base CX n f fd ps (spM X.K m)) (hb : Binds X.K fd ps []) (hx : Passes CX X E) {A : Around} {pins : List (Addr × Obj)} {s : Shared} {σ : L2.St} {H : Hp} {vs : List V} {us : List Value} {Q : VK}
    (sb : Sub X n A) (I : Inv X pins σ H s) (r : Vals vs us) (h : spM X.K m vs H Q E) : wpAny (model X.prog X.w) A (call (.ref f) us) (EP X pins σ Q) X.xe s := by
  have e0 : Env0 X.prog X.w X.K X.mg X.base A X.stack s H := by
    have e := I.env0
    exact ⟨by rw [sb.fr]; exact e.frames, e.mod, e.bs, e.bsz, e.funs, e.frf, e.hok, e.bare⟩
  have hl := F.len _ _ _ _ h
  refine wpAny_call (codeAny_mono (F.run A X.stack s H ⟨us, []⟩ us vs _ E sb.room e0 (by
    have := hb s us I.kIn (by rw [List.append_nil, ← r.length]; exact hl)
    simpa using this) r h) fun r' s' hq => ?_)
  cases r' with
  | error e => exact hx pins σ H s e s' I hq
  | ok fl =>
    cases fl with
    | ret w => exact I.after hq
    | next => exact False.elim hq
    | brk => exact False.elim hq
    | cont => exact False.elim hq
/-- a value is an instance of c, and the method is not among its own fields -/
def isIns (c : Str) (ws : List Ce) (d : D) : Bool := (insOf ws c d).isSome
theorem isIns_two {pins : List (Addr × Obj)} {s : Shared} {σ : L2.St} {H G : Hp} {as : List Addr} {ws : List Ce} {d : D} {x : V} {u : Value} (I : Inv X pins σ H s) (rx : RelV x u) (W : Wd X.K G H as ws) (r : Rep X.K as G d x) (e : isIns c ws d = true) :
    ∃ a, x = .ref a ∧ u = .ref a ∧ ∃ ox od, PySem.W.InstAt s.heap a ox (He.ga X.K c) (some od) := by
  obtain ⟨k, hk⟩ := Option.isSome_iff_exists.mp e
  exact ins_two I rx W r hk
/-- x op y by x's method -/
def rOwn (K : PySem.W.Frag) (E : XK) (c : Str) (m : Mf) (T : Option String) : R2 := fun x y H Q => ∃ G as ws dx dy, Wd K G H as ws ∧ Rep K as G dx x ∧ Rep K as G dy y ∧ isIns c ws dx = true ∧ (T.isSome = true → tyN dy = T) ∧ Post K E (Rep K) G H as (m [dx, dy] ws) Q
def sOwn (c : Str) (m : Mf) (T : Option String) (a b : Se) : Se := fun ρ ws => (a ρ ws).bind fun x ws1 => (b ρ ws1).bind fun y ws2 => if isIns c ws2 x = true ∧ (T.isSome = true → tyN y = T) then m [x, y] ws2 else .bad
theorem evOwn {K : PySem.W.Frag} {ta tb : TE} {a b : Se} {T : Option String} (ha : EvE K E ta a) (hb : EvE K E tb b) : EvE K E (tOp (rOwn K E c m T) ta tb) (sOwn c m T a b) := fun ρ ws G H as σ Q W S P => by
  refine ha ρ ws G H as σ _ W S (Post.bind P fun x ws1 v G1 H1 as1 r1 W1 rx P1 => ?_)
  refine hb ρ ws1 G1 H1 as1 σ _ W1 (S.up r1.pre r1.up) (Post.bind P1 fun y ws2 u G2 H2 as2 r2 W2 ry P2 => ?_)
  split at P2
  · rename_i hi
    exact ⟨G2, as2, ws2, x, y, W2, rx.up r2.pre r2.up, ry, hi.1, hi.2, P2⟩
  · exact False.elim P2
/-- what an operator needs of a class -/
structure Dun (X : Cx) (k : Nat) (E : XK) (c mth : Str) (m : Mf) : Prop where
  ok : ∃ f fd ps, FnOk X.prog X.w X.K X.mg X.base (cxk X.prog X.w) k f fd ps (spM X.K m) ∧ PySem.W.findIn X.K (.ref (He.ga X.K c)) mth = some (some (.ref f)) ∧ PySem.W.isFn X.K (.ref f) = true ∧ PySem.W.fnIn X.K f = true ∧ Binds X.K fd ps []
  px : Passes (cxk X.prog X.w) X E
variable {k : Nat}
/-- x in y, by y's __contains__ -/
def rOwnIn (K : PySem.W.Frag) (E : XK) (neg : Bool) (c : Str) (m : Mf) : R2 := fun x y H Q => ∃ G as ws dx dy, Wd K G H as ws ∧ Rep K as G dx x ∧ Rep K as G dy y ∧ isIns c ws dy = true ∧
  Post K E (Rep K) G H as ((m [dy, dx] ws).bind fun z ws1 => match z with
    | .bl b => .ok (.bl (if neg then !b else b)) ws1
    | _ => .bad) Q
def sOwnIn (neg : Bool) (c : Str) (m : Mf) (a b : Se) : Se := fun ρ ws => (a ρ ws).bind fun x ws1 => (b ρ ws1).bind fun y ws2 => if isIns c ws2 y = true then (m [y, x] ws2).bind fun z ws3 => match z with
    | .bl b => .ok (.bl (if neg then !b else b)) ws3
    | _ => .bad
  else .bad
theorem evOwnIn {K : PySem.W.Frag} {ta tb : TE} {a b : Se} {neg : Bool} (ha : EvE K E ta a) (hb : EvE K E tb b) : EvE K E (tOp (rOwnIn K E neg c m) ta tb) (sOwnIn neg c m a b) := fun ρ ws G H as σ Q W S P => by
  refine ha ρ ws G H as σ _ W S (Post.bind P fun x ws1 v G1 H1 as1 r1 W1 rx P1 => ?_)
  refine hb ρ ws1 G1 H1 as1 σ _ W1 (S.up r1.pre r1.up) (Post.bind P1 fun y ws2 u G2 H2 as2 r2 W2 ry P2 => ?_)
  split at P2
  · rename_i hi
    exact ⟨G2, as2, ws2, x, y, W2, rx.up r2.pre r2.up, ry, hi, P2⟩
  · exact False.elim P2
theorem op_ownIn {neg : Bool} (dn : Dun X k E c "__contains__" m) (hr : Room k X.A) : OpR X (compareOp (if neg then .NotIn else .In)) (rOwnIn X.K E neg c m) := by
  intro pins s σ H x y v u Q I rx ry h
  obtain ⟨G, as, ws, dx, dy, W, r1, r2, hi, P⟩ := h
  obtain ⟨f, fd, ps, F, hs, hf, _, hb⟩ := dn.ok
  obtain ⟨a, e1, e2, ox, od, J⟩ := isIns_two I ry W r2 hi
  subst e1 e2
  obtain ⟨mm, hF⟩ := I.fr
  have h : spM X.K m [.ref a, x] H (fun z H' => ∃ b, z = .bl b ∧ Q (.bl (if neg then !b else b)) H') E := by
    refine ⟨G, as, ws, [dy, dx], W, Reps.cons r2 (Reps.one r1), Post.bind P fun z ws1 vz G1 H1 as1 q1 W1 rz P1 => ?_⟩
    cases z with
    | bl b =>
      simp only [Rep] at rz
      exact ⟨b, rz, Post.done P1 W1 (by simp [Rep])⟩
    | _ => exact False.elim P1
  have z := own_run F hb dn.px (A := X.A) (us := [.ref a, v]) ⟨hr, rfl⟩ I (.cons (show RelV (V.ref a) (Value.ref a) from rfl) (.cons rx .nil)) h
  cases neg with
  | false =>
    refine PySem.W.in_K hF I.ok.mod.kin J hs hf (wpAny_mono z (fun r s' hz => ?_) fun _ _ q => q)
    obtain ⟨zv, H', I', rz, b, ez, q⟩ := hz
    subst ez
    obtain ⟨⟩ := rz
    exact wpAny_truthy_bool ⟨.bl b, H', I', rfl, q⟩
  | true =>
    refine PySem.W.notIn_K hF I.ok.mod.kin J hs hf (wpAny_mono z (fun r s' hz => ?_) fun _ _ q => q)
    obtain ⟨zv, H', I', rz, b, ez, q⟩ := hz
    subst ez
    obtain ⟨⟩ := rz
    exact wpAny_truthy_bool ⟨.bl (!b), H', I', rfl, q⟩
/-- x op y, by x's method -/
theorem op_own {op : Operator} {T : String} {fo ro rc : Option Value} (dn : Dun X k E c (PySem.dunder op.info.2) m) (hr : Room k X.A) (sf : PySem.W.selfFirst X.K (He.ga X.K c) = true) (at2 : PySem.W.findIn X.K (.ref (He.ga X.K c)) (dunderR op.info.2) = some rc)
    (hp : rc = none ∨ ∃ g : Addr, rc = some (.ref g)) (t1 : PySem.W.findIn X.K (.type T) (PySem.dunder op.info.2) = some fo) (t2 : PySem.W.findIn X.K (.type T) (dunderR op.info.2) = some ro) (sub : PySem.W.subIn X.K (.type T) (.ref (He.ga X.K c)) = some false) :
    OpR X (binaryOp op) (rOwn X.K E c m (some T)) := by
  intro pins s σ H x y v u Q I rx ry h
  obtain ⟨G, as, ws, dx, dy, W, r1, r2, hi, ht, P⟩ := h
  obtain ⟨f, fd, ps, F, hs, hf, _, hb⟩ := dn.ok
  obtain ⟨a, e1, e2, ox, od, J⟩ := isIns_two I rx W r1 hi
  subst e1 e2
  obtain ⟨mm, hF⟩ := I.fr
  have h : spM X.K m [.ref a, y] H Q E := ⟨G, as, ws, [dx, dy], W, Reps.cons r1 (Reps.one r2), P⟩
  have z := own_run F hb dn.px (A := X.A) (us := [.ref a, u]) ⟨hr, rfl⟩ I (.cons (show RelV (V.ref a) (Value.ref a) from rfl) (.cons ry .nil)) h
  refine bin_own hF I.ok.mod.kin J (tyN_looks I ry W r2 (ht rfl)) sf hs hf at2 hp t1 t2 sub (wpAny_mono z (fun r s' hz => ?_) fun _ _ q => q)
  obtain ⟨zv, H', I', rz, q⟩ := hz
  cases zv <;> cases r <;> first | exact ⟨_, H', I', rz, q⟩ | exact False.elim rz | (obtain ⟨_, rz⟩ := rz; cases rz) | cases rz
/-- x[y], by x's method -/
theorem ix_own {b : Expr} (dn : Dun X k E c "__getitem__" m) (hr : Room k X.A.in1) (hsl : ∀ a i, subscripted b true (.ref a) i = runValue (.builtin "lifetime.subscript" ⟨[.ref a, i], []⟩)) {value : Expr} {pins : List (Addr × Obj)} {s : Shared} {σ : L2.St} {H : Hp} {x y : V} {v u : Value} {Q : VK}
    (I : Inv X pins σ H s) (rx : RelV x v) (ry : RelV y u) (h : rOwn X.K E c m none x y H Q) : wpAny (model X.prog X.w) X.A (subscriptTail value b v u) (EP X pins σ Q) X.xe s := by
  obtain ⟨G, as, ws, dx, dy, W, r1, r2, hi, _, P⟩ := h
  obtain ⟨f, fd, ps, F, hs, hf, hfi, hb⟩ := dn.ok
  obtain ⟨a, e1, e2, ox, od, J⟩ := isIns_two I rx W r1 hi
  subst e1 e2
  obtain ⟨mm, hF⟩ := I.fr
  have h : spM X.K m [.ref a, y] H Q E := ⟨G, as, ws, [dx, dy], W, Reps.cons r1 (Reps.one r2), P⟩
  exact PySem.W.sub_K hF I.ok.mod.kin J hs hfi hf (own_run F hb dn.px (A := X.A.in1) (us := [.ref a, u]) ⟨hr, rfl⟩ I (.cons (show RelV (V.ref a) (Value.ref a) from rfl) (.cons ry .nil)) h) (hsl a u)
end
section
variable {K : PySem.W.Frag} {X : Cx} {E : XK} {a b : Expr} {ta tb : TE} {sa sb : Se} {c : Str} {m : Mf} {k : Nat} {pos : Pos}
theorem ae_binO {op : Operator} {T : String} {fo ro rc : Option Value} (dn : Dun X k E c (PySem.dunder op.info.2) m) (hr : Room k X.A) (ha : AE K X E a ta sa) (hb : AE K X E b tb sb) (sf : PySem.W.selfFirst X.K (He.ga X.K c) = true) (at2 : PySem.W.findIn X.K (.ref (He.ga X.K c)) (dunderR op.info.2) = some rc)
    (hp : rc = none ∨ ∃ g : Addr, rc = some (.ref g)) (t1 : PySem.W.findIn X.K (.type T) (PySem.dunder op.info.2) = some fo) (t2 : PySem.W.findIn X.K (.type T) (dunderR op.info.2) = some ro) (sub : PySem.W.subIn X.K (.type T) (.ref (He.ga X.K c)) = some false) :
    AE K X E (.BinOp a op b pos) (tOp (rOwn K E c m (some T)) ta tb) (sOwn c m (some T) sa sb) := by
  have e := ha.hK
  subst e
  exact ⟨rfl, pe_op (op_own dn hr sf at2 hp t1 t2 sub) ha.pe hb.pe, evOwn ha.ev hb.ev⟩
theorem ae_inO {neg : Bool} (dn : Dun X k E c "__contains__" m) (hr : Room k X.A) (ha : AE K X E a ta sa) (hb : AE K X E b tb sb) (hm : behindInMarks (if neg then .NotIn else .In) b = false) :
    AE K X E (.Compare a [if neg then .NotIn else .In] [b] pos) (tOp (rOwnIn K E neg c m) ta tb) (sOwnIn neg c m sa sb) := by
  have e := ha.hK
  subst e
  exact ⟨rfl, pe_cmpR (op_ownIn dn hr) ha.pe hb.pe hm, evOwnIn ha.ev hb.ev⟩
theorem at_inO {neg : Bool} (dn : Dun X k E c "__contains__" m) (hr : Room k X.A) (ha : AE K X E a ta sa) (hb : AE K X E b tb sb) (hm : behindInMarks (if neg then .NotIn else .In) b = false) :
    AT K X E (.Compare a [if neg then .NotIn else .In] [b] pos) (tB (tOp (rOwnIn K E neg c m) ta tb)) (sB (sOwnIn neg c m sa sb)) := by
  have e := ha.hK
  subst e
  exact ⟨rfl, pt_cmpR (op_ownIn dn hr) ha.pe hb.pe hm, evB (evOwnIn ha.ev hb.ev)⟩
theorem ae_ixO (dn : Dun X k E c "__getitem__" m) (hr : Room k X.A.in1) (ha : AE K X E a ta sa) (hb : AE K X E b tb sb) (hsl : ∀ x i, subscripted b true (.ref x) i = runValue (.builtin "lifetime.subscript" ⟨[.ref x, i], []⟩) := by intro _ _; with_unfolding_all rfl) :
    AE K X E (.Subscript a b pos) (tOp (rOwn K E c m none) ta tb) (sOwn c m none sa sb) := by
  have e := ha.hK
  subst e
  refine ⟨rfl, ⟨fun pins s σ H Q I h => Subscript_ (binT ha.pe hb.pe I h fun v u s2 x y H2 I2 rx ry q => ix_own dn hr hsl I2 rx ry q)⟩, evOwn ha.ev hb.ev⟩
end
end RL
set_option Elab.async false
set_option linter.all false
set_option maxRecDepth 100000
/-! RL10: len, str, items stored by an own class; isinstance; properties, classmethods, new instances. -/
namespace RL
open PySem PySem.Spec PyProof.Rows L2
variable [kd : KdC]
section
variable {X : Cx} {E : XK} {c : Str} {m : Mf} {k : Nat}
/-! len(x), str(x) by own defs -/
def rOwnLen (K : PySem.W.Frag) (E : XK) (c : Str) (m : Mf) : List V → Hp → VK → Prop := fun xs H Q => ∃ x G as ws d, xs = [x] ∧ Wd K G H as ws ∧ Rep K as G d x ∧ isIns c ws d = true ∧ Post K E (Rep K) G H as ((m [d] ws).bind fun z ws1 => match z with
  | .int i => if 0 ≤ i ∧ i < 1000000 then .ok (.int i) ws1 else .bad
  | _ => .bad) Q
def rOwnStr (K : PySem.W.Frag) (E : XK) (c : Str) (m : Mf) : List V → Hp → VK → Prop := fun xs H Q => ∃ x G as ws d, xs = [x] ∧ Wd K G H as ws ∧ Rep K as G d x ∧ isIns c ws d = true ∧ Post K E (Rep K) G H as ((m [d] ws).bind fun z ws1 => match z with
  | .str i => .ok (.str i) ws1
  | _ => .bad) Q
theorem call_ownLen (dn : Dun X k E c "__len__" m) (hr : Room k X.A.in1) : CallR X (.builtin "len") (rOwnLen X.K E c m) := by
  intro pins s σ H xs us Q I rv h
  obtain ⟨x, G, as, ws, d, ex, W, r1, hi, P⟩ := h
  subst ex
  obtain ⟨u, rfl, rx⟩ := rv.one
  obtain ⟨f, fd, ps, F, hs, hf, _, hb⟩ := dn.ok
  obtain ⟨a, e1, e2, ox, od, J⟩ := isIns_two I rx W r1 hi
  subst e1 e2
  obtain ⟨mm, hF⟩ := I.fr
  have h : spM X.K m [.ref a] H (fun z H' => ∃ i : Int, z = .int i ∧ (0 ≤ i ∧ i < 1000000) ∧ Q (.int i) H') E := by
    refine ⟨G, as, ws, [d], W, Reps.one r1, Post.bind P fun z ws1 vz G1 H1 as1 q1 W1 rz P1 => ?_⟩
    cases z with
    | int i =>
      simp only at P1
      split at P1
      · rename_i hi
        simp only [Rep] at rz
        exact ⟨i, rz, hi, Post.done P1 W1 (by simp [Rep])⟩
      · exact False.elim P1
    | _ => exact False.elim P1
  have z := own_run F hb dn.px (A := X.A.in1) (us := [.ref a]) ⟨hr, rfl⟩ I (.cons (show RelV (V.ref a) (Value.ref a) from rfl) .nil) h
  refine PySem.W.len_K hF I.ok.mod.kin J hs hf (wpAny_mono z (fun r s' hz => ?_) fun _ _ q => q)
  obtain ⟨zv, H', I', rz, i, ez, hi, q⟩ := hz
  subst ez
  obtain ⟨t, rfl⟩ := rz
  exact ⟨⟨hi.1, by omega⟩, .int i, H', I'.tok _, ⟨_, rfl⟩, q⟩
theorem call_ownStr (dn : Dun X k E c "__str__" m) (hr : Room k X.A.in1.in1) : CallR X (.type "str") (rOwnStr X.K E c m) := by
  intro pins s σ H xs us Q I rv h
  obtain ⟨x, G, as, ws, d, ex, W, r1, hi, P⟩ := h
  subst ex
  obtain ⟨u, rfl, rx⟩ := rv.one
  obtain ⟨f, fd, ps, F, hs, hf, _, hb⟩ := dn.ok
  obtain ⟨a, e1, e2, ox, od, J⟩ := isIns_two I rx W r1 hi
  subst e1 e2
  have h : spM X.K m [.ref a] H (fun z H' => ∃ i : Str, z = .str i ∧ Q (.str i) H') E := by
    refine ⟨G, as, ws, [d], W, Reps.one r1, Post.bind P fun z ws1 vz G1 H1 as1 q1 W1 rz P1 => ?_⟩
    cases z with
    | str i =>
      simp only [Rep] at rz
      exact ⟨i, rz, Post.done P1 W1 (by simp [Rep])⟩
    | _ => exact False.elim P1
  have z := own_run F hb dn.px (A := X.A.in1.in1) (us := [.ref a]) ⟨hr, rfl⟩ I (.cons (show RelV (V.ref a) (Value.ref a) from rfl) .nil) h
  refine PySem.W.kso_call hr.units0 I.kIn J hs hf (wpAny_mono z (fun r s' hz => ?_) fun _ _ q => q)
  obtain ⟨zv, H', I', rz, i, ez, q⟩ := hz
  subst ez
  obtain ⟨t, rfl⟩ := rz
  exact ⟨.str i, H', I', ⟨_, rfl⟩, q⟩
def sLenO (c : Str) (m : Mf) (a : Sa) : Se := fun ρ ws => (a ρ ws).bind fun ds ws1 => match ds with
  | [d] => if isIns c ws1 d = true then (m [d] ws1).bind fun z ws2 => (match z with
      | .int i => if 0 ≤ i ∧ i < 1000000 then .ok (.int i) ws2 else .bad
      | _ => .bad)
    else .bad
  | _ => .bad
def sStrO (c : Str) (m : Mf) (a : Sa) : Se := fun ρ ws => (a ρ ws).bind fun ds ws1 => match ds with
  | [d] => if isIns c ws1 d = true then (m [d] ws1).bind fun z ws2 => (match z with
      | .str i => .ok (.str i) ws2
      | _ => .bad)
    else .bad
  | _ => .bad
variable {K : PySem.W.Frag} {e : Expr} {es : List Expr} {ta : TA} {sa : Sa} {p pos : Pos}
theorem ae_lenO (dn : Dun X k E c "__len__" m) (hr : Room k X.A.in1) (hm : X.mg "len" = none) (ha : AA K X E (e :: es) ta sa) (hg : Gl X "len" := by rfl)
    (he : starEach (e :: es) X.env = (false, eval e X.env) :: starEach es X.env := by rfl) (hpl : (backTo pos (starEach es X.env)).any (·.1) = false := by rfl) : AE K X E (.Call (.Name "len" p) (e :: es) [] pos) (tCB (rOwnLen K E c m) ta) (sLenO c m sa) := by
  have e0 := ha.hK
  subst e0
  refine ⟨rfl, pe_callB (call_ownLen dn hr) hg hm rfl ha.pe (by decide) (by decide) he hpl, fun ρ ws G H as σ Q W S P => ha.ev ρ ws G H as σ _ W S (Post.bind P fun ds ws1 vs G1 H1 as1 r1 W1 rs P1 => ?_)⟩
  split at P1
  · split at P1
    · rename_i d hi
      obtain ⟨v, us, e1, e2, e3⟩ := rs.uncons
      rw [e3.unnil] at e1
      subst e1
      exact ⟨v, G1, as1, ws1, d, rfl, W1, e2, hi, P1⟩
    · exact False.elim P1
  · exact False.elim P1
theorem ae_strO (dn : Dun X k E c "__str__" m) (hr : Room k X.A.in1.in1) (hm : X.mg "str" = none) (ha : AA K X E (e :: es) ta sa) (hg : Gl X "str" := by rfl)
    (he : starEach (e :: es) X.env = (false, eval e X.env) :: starEach es X.env := by rfl) (hpl : (backTo pos (starEach es X.env)).any (·.1) = false := by rfl) : AE K X E (.Call (.Name "str" p) (e :: es) [] pos) (tCB (rOwnStr K E c m) ta) (sStrO c m sa) := by
  have e0 := ha.hK
  subst e0
  refine ⟨rfl, pe_callTy (call_ownStr dn hr) hg hm rfl ha.pe (by decide) (by decide) he hpl, fun ρ ws G H as σ Q W S P => ha.ev ρ ws G H as σ _ W S (Post.bind P fun ds ws1 vs G1 H1 as1 r1 W1 rs P1 => ?_)⟩
  split at P1
  · split at P1
    · rename_i d hi
      obtain ⟨v, us, e1, e2, e3⟩ := rs.uncons
      rw [e3.unnil] at e1
      subst e1
      exact ⟨v, G1, as1, ws1, d, rfl, W1, e2, hi, P1⟩
    · exact False.elim P1
  · exact False.elim P1
/-! o[i] = v by an own __setitem__ -/
def rOwnSet (K : PySem.W.Frag) (E : XK) (c : Str) (m : Mf) : TSet := fun o i v H Q => ∃ G as ws d di dv, Wd K G H as ws ∧ Rep K as G d o ∧ Rep K as G di i ∧ Rep K as G dv v ∧ isIns c ws d = true ∧ Post K E (Rep K) G H as (m [d, di, dv] ws) fun _ H' => Q H'
theorem set_own (dn : Dun X k E c "__setitem__" m) (hr : Room k X.A) (hq : PySem.W.noSeq X.K (He.ga X.K c) = true) : PSet X (rOwnSet X.K E c m) := by
  intro pins s σ H o i v ov iv u Q I ro ri rv h
  obtain ⟨G, as, ws, d, di, dv, W, r1, r2, r3, hi, P⟩ := h
  obtain ⟨f, fd, ps, F, hs, hf, _, hb⟩ := dn.ok
  obtain ⟨a, e1, e2, ox, od, J⟩ := isIns_two I ro W r1 hi
  subst e1 e2
  obtain ⟨mm, hF⟩ := I.fr
  have h : spM X.K m [.ref a, i, v] H (fun _ H' => Q H') E := ⟨G, as, ws, [d, di, dv], W, Reps.cons r1 (Reps.cons r2 (Reps.one r3)), P⟩
  have z := own_run F hb dn.px (A := X.A) (us := [.ref a, iv, u]) ⟨hr, rfl⟩ I (.cons (show RelV (V.ref a) (Value.ref a) from rfl) (.cons ri (.cons rv .nil))) h
  refine PySem.W.ksp_setItem hF I.ok.mod.kin J hq hs hf (wpAny_mono z (fun r s' hz => ?_) fun _ _ q => q)
  obtain ⟨zv, H', I', rz, q⟩ := hz
  exact ⟨H', I', q⟩
def tgItemO (c : Str) (m : Mf) (o i : Se) : Tg := fun d ρ ws => (o ρ ws).bind fun x ws1 => (i ρ ws1).bind fun j ws2 => if isIns c ws2 x = true then (m [x, j, d] ws2).bind fun _ ws3 => .ok ρ ws3 else .bad
theorem ag_itemO {o i : Expr} {to ti : TE} {so si : Se} (dn : Dun X k E c "__setitem__" m) (hr : Room k X.A) (hq : PySem.W.noSeq X.K (He.ga X.K c) = true) (ho : AE K X E o to so) (hi : AE K X E i ti si) (ha : ∀ v, assign (.Subscript o i pos) X.env v = (do
      let ov ← holding [v] (eval o X.env)
      let iv ← holding [v, ov] (eval i X.env)
      standAt pos
      holding [v, ov, iv] (setItem ov iv v)
      release [v, ov, iv] []) := by intro _; rfl) : AG K X E (.Subscript o i pos) (gSub to ti (rOwnSet K E c m)) [] (tgItemO c m so si) := by
  have e0 := ho.hK
  subst e0
  refine ⟨rfl, pg_sub ho.pe hi.pe (set_own dn hr hq) ha, fun d v ρ ws G H as σ Q W S r P => ho.ev ρ ws G H as σ _ W S (Post.bind P fun x ws1 u G1 H1 as1 r1 W1 rx P1 => ?_)⟩
  have S1 := S.up r1.pre r1.up
  refine hi.ev ρ ws1 G1 H1 as1 σ _ W1 S1 (Post.bind P1 fun j ws2 w G2 H2 as2 r2 W2 rj P2 => ?_)
  split at P2
  · rename_i hh
    exact ⟨G2, as2, ws2, x, j, d, W2, rx.up r2.pre r2.up, rj, (r.up r1.pre r1.up).up r2.pre r2.up, hh, Post.bind P2 fun _ ws3 _ G3 H3 as3 r3 W3 _ P3 => Post.done P3 W3 ⟨(S1.up r2.pre r2.up).up r3.pre r3.up, Chg.refl⟩⟩
  · exact False.elim P2
/-! ### isinstance -/
inductive Tn where
  | b (n : String) | c (n : Str)
  deriving DecidableEq
def tyD (ws : List Ce) : D → Option Tn
  | .non => some (.b "NoneType")
  | .bl _ => some (.b "bool")
  | .int _ => some (.b "int")
  | .str _ => some (.b "str")
  | .tup _ => some (.b "tuple")
  | .lst _ => some (.b "list")
  | .ins c _ _ => some (.c c)
  | .cell n => (match ws[n]? with
    | some (.lst _) => some (.b "list")
    | some (.ins c _ _) => some (.c c)
    | some (.dct _ _) => some (.b "dict")
    | some (.dcT _ _) => some (.b "dict")
    | _ => none)
  | .cls _ => none
  | .fz _ => none
  | .exc _ _ _ => none
  | .dct _ _ => some (.b "dict")
  | .dcT _ _ => some (.b "dict")
def tnV (K : PySem.W.Frag) : Tn → Value
  | .b n => .type n
  | .c n => .ref (He.ga K n)
/-- what an own class must have to be asked after -/
structure IsC (K : PySem.W.Frag) (c : Str) : Prop where
  cl : Cls K (He.ga K c)
  at_ : PySem.W.findIn K (.ref (He.ga K c)) "__class__" = some (some (.builtin "object.__class__"))
  mro : PySem.W.mroIn K (He.ga K c) (.type "object") = some true
structure IsF (K : PySem.W.Frag) : Prop where
  get : PySem.W.specialIn K (.builtin "object.__class__") "__get__" = some (some (.builtin "getset_descriptor.__get__"))
  tk : PySem.W.takesIn K (.builtin "object.__class__") = some true
theorem tyD_ok {G H : Hp} {as : List Addr} {ws : List Ce} {d : D} {x : V} {t : Tn} (IF : IsF K) (hc : ∀ n, t = .c n → IsC K n) (W : Wd K G H as ws) (r : Rep K as G d x) (e : tyD ws d = some t) : TyX K H x (tnV K t) := by
  have hi : ∀ {c0 : Str} {kl}, insOf ws c0 d = some kl → IsC K c0 → TyX K H x (.ref (He.ga K c0)) := fun {c0 kl} q C => by
    obtain ⟨ks, l⟩ := kl
    obtain ⟨a, dx, vs, e1, e2, e3, e4⟩ := ins_rep W q r
    subst e1
    exact .base (.ins e2 C.cl C.at_ IF.get IF.tk C.mro)
  cases d with
  | non =>
    cases e
    simp only [Rep] at r
    subst r
    exact .base .non
  | bl b =>
    cases e
    simp only [Rep] at r
    subst r
    exact .base (.bl b)
  | int b =>
    cases e
    simp only [Rep] at r
    subst r
    exact .base (.int b)
  | str b =>
    cases e
    simp only [Rep] at r
    subst r
    exact .base (.str b)
  | tup l =>
    cases e
    simp only [Rep] at r
    obtain ⟨a, vs, e1, e2, e3⟩ := r
    subst e1
    exact .base (.tup (W.le _ _ e2))
  | lst l =>
    cases e
    simp only [Rep] at r
    obtain ⟨a, vs, e1, e2, e3⟩ := r
    subst e1
    exact .base (.lst (W.le _ _ e2))
  | ins c1 ks l =>
    cases e
    exact hi (c0 := c1) (kl := (ks, l)) (by simp [insOf]) (hc _ rfl)
  | cell n =>
    simp only [tyD] at e
    cases q : ws[n]? with
    | none =>
      rw [q] at e
      cases e
    | some ce =>
      rw [q] at e
      cases ce with
      | lst l =>
        cases e
        obtain ⟨a, vs, e1, e2, e3, e4⟩ := cell_lst W q r
        subst e1
        exact .base (.lst e3)
      | ins c1 ks l =>
        cases e
        exact hi (c0 := c1) (kl := (ks, l)) (by simp [insOf, q]) (hc _ rfl)
      | dead => cases e
      | dct ks l =>
        cases e
        obtain ⟨a, o, e1, e2, e3, vs, e4, e5, e6⟩ := W.cellAt q (fun z => by cases z) r
        subst e1 e4
        exact .base (.dK e3)
      | dcT ks l =>
        cases e
        obtain ⟨a, o, e1, e2, e3, vs, e4, e5, e6⟩ := W.cellAt q (fun z => by cases z) r
        subst e1 e4
        exact .base (.dT e3)
  | cls _ => cases e
  | fz _ => cases e
  | exc _ _ _ => cases e
  | dct ks l =>
    cases e
    simp only [Rep] at r
    obtain ⟨a, vs, e1, e2, e3⟩ := r
    subst e1
    exact .base (.dK (W.le _ _ e2))
  | dcT ks l =>
    cases e
    simp only [Rep] at r
    obtain ⟨a, vs, e1, e2, e3⟩ := r
    subst e1
    exact .base (.dT (W.le _ _ e2))
/-- isinstance(a, T) by a table: types and answers -/
def sIsi (tab : List (Tn × Bool)) (a : Se) : Se := fun ρ ws => (a ρ ws).bind fun x ws1 => match tyD ws1 x with
  | some t => (match tab.lookup t with
    | some b => .ok (.bl b) ws1
    | none => .bad)
  | none => .bad
/-- the table is right for the class u -/
def TabOk (K : PySem.W.Frag) (tab : List (Tn × Bool)) (u : Value) : Prop := ∀ t b, tab.lookup t = some b → PySem.W.kitOne K (tnV K t) u = some b ∧ ∀ n, t = .c n → IsC K n
theorem ae_isi {e2 : Expr} {v2 : V} {u2 : Value} {tab : List (Tn × Bool)} {te : TE} {se : Se} (IF : IsF K) (ok : TabOk K tab u2) (hc : ClsV v2 u2) (hm : X.mg "isinstance" = none) (h : AE K X E e te se) (h2 : PE X e2 (tC v2)) (hg : Gl X "isinstance" := by rfl)
    (he : starEach [e, e2] X.env = (false, eval e X.env) :: starEach [e2] X.env := by rfl) (hs2 : starEach [e2] X.env = (false, eval e2 X.env) :: starEach [] X.env := by rfl) (hpl : (backTo pos (starEach [e2] X.env)).any (·.1) = false := by rfl) :
    AE K X E (.Call (.Name "isinstance" p) [e, e2] [] pos) (tCB (rIsi K) (tCons te (tCons (tC v2) tNil))) (sIsi tab se) := by
  have e0 := h.hK
  subst e0
  refine ⟨rfl, pe_callB call_isi hg hm rfl (pa_cons h.pe (pa_cons h2 pa_nil hs2) he) (by decide) (by decide) he hpl, fun ρ ws G H as σ Q W S P => h.ev ρ ws G H as σ _ W S (Post.bind P fun d ws1 x G1 H1 as1 r1 W1 rx P1 => ?_)⟩
  split at P1
  · rename_i t ht
    split at P1
    · rename_i b hb
      obtain ⟨k1, k2⟩ := ok t b hb
      exact ⟨x, v2, tnV X.K t, u2, b, rfl, hc, tyD_ok IF k2 W1 rx ht, k1, Post.done P1 W1 (by simp [Rep])⟩
    · exact False.elim P1
  · exact False.elim P1
end
end RL
set_option Elab.async false
set_option linter.all false
set_option maxRecDepth 100000
/-! RL11: new instances (arguments starred and by name), properties, classmethods, methods with keywords. -/
namespace RL
open PySem PySem.Spec PyProof.Rows L2
variable [kd : KdC]
theorem cxUpK {P : Program} {w : World} : StX.CXUp (cxk P w) := by
  obtain ⟨n⟩ := kd
  cases n
  · exact StX.cxUp
  · rintro outer s H s2 H2 E e s' un kp ho ⟨a, B, H', cls, d, ea, fl, hok, ub, na, os, ag, he⟩
    refine ⟨a, B, H', cls, d, ea, fl, hok, ⟨fun b o q n hb => ub.keep b o (kp b o q) (un.free b o q n (by simp)) hb, fun b o q hb => ub.slot b o (kp b o q) hb, fun b o q n => ub.free b o (kp b o q) (un.free b o q n (by simp)),
      fun b o q hb => ub.there b o (kp b o q) hb, fun b xs q => ub.tups b xs (un.tups b xs q), fun b o xs q => ub.frzs b o xs (un.frzs b o xs q), fun b ps q => ?_⟩, na, os.trans ho, ag, he⟩
    obtain ⟨m1, e1⟩ := un.tbls b ps q
    obtain ⟨m2, e2⟩ := ub.tbls b _ e1
    exact ⟨m1 ++ m2, by rw [e2, Array.append_assoc]⟩
/-- a def, called with values and with values by the names ks, does m of them all -/
def FnA (P : Program) (w : World) (K : PySem.W.Frag) (mg : Str → Option Value) (base : Heap) (k : Nat) (f : Addr) (ks : List Str) (m : Mf) : Prop := ∀ (A : Around) (outer : List Env) (s : Shared) (H : Hp) (us us2 : List Value) (vs zs : List V) (Q : VK) (E : XK),
  Room k A → Env0 P w K mg base A outer s H → Vals vs us → Vals zs us2 → us2.length = ks.length → spM K m (vs ++ zs) H Q E → codeAny (model P w) A (.call (.ref f) ⟨us, ks.zip us2⟩) (CR (cxk P w) outer P w H s Q E) s
section
variable {P : Program} {w : World} {K : PySem.W.Frag} {mg : Str → Option Value} {base : Heap} {k : Nat} {f : Addr} {fd : FuncData} {ps : List Str} {m : Mf} {x qual : Str} {params : Arguments} {body : List Stmt} {scope : Scope} {dvs : List V} {kws : List (Str × V)}
theorem FnA.mono {j : Nat} {ks : List Str} (F : FnA P w K mg base j f ks m) (h : j ≤ k) : FnA P w K mg base k f ks m := fun A outer s H us us2 vs zs Q E hr => F A outer s H us us2 vs zs Q E (hr.mono h)
theorem fna_of (F : FnOk P w K mg base (cxk P w) k f fd ps (spM K m)) (hb : Binds K fd ps []) : FnA P w K mg base k f [] m := by
  intro A outer s H us us2 vs zs Q E hr e0 r rz hl h
  have e1 : us2 = [] := List.length_eq_zero_iff.mp hl
  subst e1
  cases rz
  rw [List.append_nil] at h
  have KX : K.In s.heap := e0.mod.kin.keeps fun b o e => (e0.bs b o e).1
  have hl := F.len _ _ _ _ h
  have z := hb s us KX (by rw [List.append_nil, ← r.length]; exact hl)
  rw [List.append_nil] at z
  exact F.run A outer s H ⟨us, []⟩ us vs Q E hr e0 z r h
/-- parameters given by name behind n others -/
theorem fna_kw (F : FnOk P w K mg base (cxk P w) k f fd ps (spM K m)) (ks : List Str) (hb : ∀ (s : Shared) (us us2 : List Value), K.In s.heap → us2.length = ks.length → (us ++ us2).length = ps.length → BindsTo s fd ⟨us, ks.zip us2⟩ (ps.zip (us ++ us2))) : FnA P w K mg base k f ks m := by
  intro A outer s H us us2 vs zs Q E hr e0 r rz hl h
  have KX : K.In s.heap := e0.mod.kin.keeps fun b o e => (e0.bs b o e).1
  have rr := r.append rz
  have hl2 := F.len _ _ _ _ h
  exact F.run A outer s H ⟨us, ks.zip us2⟩ (us ++ us2) (vs ++ zs) Q E hr e0 (hb s us us2 KX hl (by rw [← rr.length]; exact hl2)) rr h
/-- a starred parameter behind n others, nk by name -/
def starM (kp : Bool) (n nk : Nat) (N : List Str) (g : Ss) : Mf := fun ds ws => if n + nk ≤ ds.length ∧ ds.length ≤ 100000 then
    fin kp ws (g (startD N (ds.take n ++ ds.drop (ds.length - nk) ++ [.tup ((ds.drop n).take (ds.length - n - nk))])) ws)
  else .bad
theorem vals_cut {vs : List V} {us : List Value} (r : Vals vs us) (n : Nat) : Vals (vs.take n) (us.take n) ∧ Vals (vs.drop n) (us.drop n) := by
  induction r generalizing n with
  | nil => simp; exact .nil
  | cons a r ih =>
    cases n with
    | zero => exact ⟨.nil, .cons a r⟩
    | succ n => exact ⟨.cons a (ih n).1, (ih n).2⟩
theorem fna_star {psA ks N : List Str} {pv : Str} {n : Nat} {g : Ss} {kp : Bool} (F : FunD K x qual params body scope [] kws f fd) (S : FnScope N (psA ++ [pv]) scope) (hA : psA.length = n + ks.length)
    (hb : ∀ (kV doc pm : Value) (an : Option Addr) (cdv ct : Value) (us rest us2 : List Value), us.length = n → us2.length = ks.length → bindArgs (PySem.W.fnOf x qual params body scope .none kV doc pm an cdv ct) ⟨us ++ rest, ks.zip us2⟩ = (newTuple rest >>= fun t => pure (psA.zip (us ++ us2) ++ [(pv, t)])))
    (hd : ∀ (cdv : Value) (A : Around) (outer : List Env) (s : Shared) (H : Hp) (E : XK), Ctx P w K mg base N scope k (cxOf (cxk P w) P w K mg base N qual scope f cdv A outer s H E) E → ∃ ts, ASs K (cxOf (cxk P w) P w K mg base N qual scope f cdv A outer s H E) E body ts g) :
    FnA P w K mg base (k + 1) f ks (starM kp n ks.length N g) := by
  obtain ⟨oc, od, dV, kV, doc, pm, an, cdv, ct, osl, rfl, lk, hcd, hD, _⟩ := F.ex
  have hdv : dV = .none := by
    rcases hD with ⟨_, e⟩ | ⟨e, _⟩
    · exact e
    · exact absurd rfl e
  subst hdv
  intro A outer s H us us2 vs zs Q E hr e0 r rz hl h
  obtain ⟨G, as, ws, ds, W, rs, Pt⟩ := h
  unfold starM at Pt
  split at Pt
  · rename_i hh
    obtain ⟨h1, h2⟩ := hh
    have ez : zs.length = ks.length := by rw [rz.length, hl]
    have el : ds.length = vs.length + ks.length := by rw [rs.len, List.length_append, ez]
    have hv : n ≤ vs.length := by omega
    obtain ⟨q1, q2⟩ := vals_cut r n
    have hu : us.length = vs.length := r.length.symm
    have hn : H s.heap.objs.size = none := e0.hok.fresh (Nat.le_refl _)
    have hz : (vs.drop n).length ≤ sizeLine := small5 (by rw [List.length_drop]; omega)
    have hz2 : (us.drop n).length ≤ sizeLine := by rw [← q2.length]; exact hz
    have hus : (us.take n).length = n := by rw [List.length_take]; omega
    refine StX.run_bnd lk hcd S hr e0 (G := fun xs H2 => ∃ p, H p = none ∧ xs = (vs.take n ++ zs) ++ [V.ref p] ∧ H2 = upd H p (.tup (vs.drop n))) (fun A' Ex Q' hk => ?_) fun s2 H2 xs ⟨p, hp, ex, eH⟩ hr' => ?_
    · have hb' := hb kV doc pm an cdv ct (us.take n) (us.drop n) us2 hus hl
      rw [List.take_append_drop] at hb'
      rw [hb']
      refine wpAny_bind (wpAny_newTuple (wpAny_pure ?_) hz2)
      have new : ObjOk P w (upd H s.heap.objs.size (.tup (vs.drop n))) (s.heap.push ({ cls := .type "tuple", data := .seq (us.drop n).toArray } : Obj)) s.heap.objs.size (.tup (vs.drop n)) := ⟨hz, us.drop n, q2, ⟨_, Heap.get?_push_size _ rfl, rfl, _, rfl⟩⟩
      have un := StX.un_laid (fs := frs outer) (s := s) (o := ({ cls := .type "tuple", data := .seq (us.drop n).toArray } : Obj)) (u := .tup (vs.drop n)) hn
      have z := hk _ _ ((vs.take n ++ zs) ++ [V.ref s.heap.objs.size]) ((us.take n ++ us2) ++ [Value.ref s.heap.objs.size]) (StX.env0_laid e0 new) un rfl (fun e s' => cxUpK outer s H _ _ E e s' un (fun b o q => Heap.get?_push_of_some _ q) rfl) ((q1.append rz).append (.cons rfl .nil))
        (by
          rw [List.length_append, List.length_append, List.length_append, List.length_take, hA, ez, Nat.min_eq_left hv] <;> rfl) ⟨_, hn, rfl, rfl⟩
      rw [List.zip_append (by rw [List.length_append, hus, hl, hA])] at z
      exact z
    · subst ex eH
      have tk : Tk (cxOf (cxk P w) P w K mg base N qual scope f cdv A outer s2 (upd H p (.tup (vs.drop n))) E) fun cls d _ H => E cls d H := tk_of
      obtain ⟨ts, hT⟩ := hd cdv A outer s2 (upd H p (.tup (vs.drop n))) E ⟨hr', tk, tk_px tk, PassesOwn.leaving⟩
      refine ⟨ts, hT.pe, ?_⟩
      have rch := Rch.new (as := as) (o := .tup (vs.drop n)) W.le hp
      have W2 := W.new (o := .tup (vs.drop n)) hp
      have rs2 := rs.up (List.prefix_refl _) rch.up
      have lz : zs = (vs ++ zs).drop (ds.length - ks.length) := by
        have : ds.length - ks.length = vs.length := by omega
        rw [this, List.drop_left]
      have lv : vs.drop n = ((vs ++ zs).drop n).take (ds.length - n - ks.length) := by
        rw [List.drop_append_of_le_length hv]
        have : ds.length - n - ks.length = (vs.drop n).length := by
          rw [List.length_drop]
          omega
        rw [this, List.take_left]
      have lt : vs.take n = (vs ++ zs).take n := by rw [List.take_append_of_le_length hv]
      have rr : Reps K as (upd G p (.tup (vs.drop n))) (ds.take n ++ ds.drop (ds.length - ks.length) ++ [.tup ((ds.drop n).take (ds.length - n - ks.length))]) ((vs.take n ++ zs) ++ [V.ref p]) := by
        refine Reps.app (Reps.app ?_ ?_) (Reps.one ?_)
        · rw [lt]
          exact rs2.take n
        · rw [lz]
          exact rs2.drop _
        · simp only [Rep]
          refine ⟨p, vs.drop n, rfl, upd_same, ?_⟩
          have z := (rs2.drop n).take (ds.length - n - ks.length)
          rw [← lv] at z
          exact z
      exact hT.ev _ ws _ _ as _ _ W2 (start_rep rr) (fin_post W2 (Post.from Pt rch))
  · exact False.elim Pt
end
/-! ### new instances -/
/-- a new instance of c: m fills it; it is kept open, or fixed -/
def mkR (kp : Bool) (c : Str) (m : Mf) (ds : List D) (ws : List Ce) : R D :=
  let r := (m (.cell ws.length :: ds) (ws ++ [.ins c [] []])).bind fun z ws2 => match z with
    | .non => .ok (.cell ws.length) ws2
    | _ => .bad
  if kp = true then r else frzR ws r
def tMkA (K : PySem.W.Frag) (C : Addr) (m : Mf) (E : XK) (Q : VK) (vs : List V) (H : Hp) : Prop := ∀ x dx, H x = none → H dx = none → dx ≠ x → spM K m (.ref x :: vs) (upd (upd H dx (.own x)) x (.ins C dx [])) (fun v H3 => v = .non ∧ Q (.ref x) H3) E
section
variable {X : Cx} {E : XK} {k : Nat} {f : Addr} {ks : List Str} {m : Mf} {c : Str}
theorem run_mk {pins : List (Addr × Obj)} {σ : L2.St} {H : Hp} {s : Shared} {Q : VK} {us us2 : List Value} {vs zs : List V} (M : Mk X.K (He.ga X.K c) f) (F : FnA X.prog X.w X.K X.mg X.base k f ks m) (hr : Room (k + 1) X.A) (hx : Passes (cxk X.prog X.w) X E)
    (I : Inv X pins σ H s) (r : Vals vs us) (rz : Vals zs us2) (hl : us2.length = ks.length) (h : tMkA X.K (He.ga X.K c) m E Q (vs ++ zs) H) : wpAny (model X.prog X.w) X.A (call (.ref (He.ga X.K c)) us (ks.zip us2)) (EP X pins σ Q) X.xe s := by
  have hq := h (s.heap.objs.size + 1) s.heap.objs.size (I.hok.fresh (Nat.le_succ _)) (I.hok.fresh (Nat.le_refl _)) (Nat.ne_of_lt (Nat.lt_succ_self _))
  have J := Inv.made (C := He.ga X.K c) I
  refine wpAny_call (make_map (f := f) I.kIn M.makes M.init (beq_iff_eq.mp M.fn) (codeAny_mono (F _ X.stack _ _ (Value.ref (s.heap.objs.size + 1) :: us) us2 (V.ref (s.heap.objs.size + 1) :: vs) zs _ E (hr.make (He.ga X.K c) us (ks.zip us2))
    (J.env0.make (He.ga X.K c) us (ks.zip us2)) (.cons rfl r) rz hl hq) fun r' s' hq' => ?_))
  cases r' with
  | error e => exact hx pins σ _ _ e s' J hq'
  | ok fl =>
    cases fl with
    | ret u =>
      obtain ⟨v, H', I3, rv, ev, q3⟩ := J.after hq'
      subst ev
      exact ⟨rv, ⟨V.ref (s.heap.objs.size + 1), H', I3, rfl, q3⟩⟩
    | next => exact False.elim hq'
    | brk => exact False.elim hq'
    | cont => exact False.elim hq'
/-- what is wanted of the maker -/
theorem mk_ev {K : PySem.W.Frag} {kp : Bool} {ws : List Ce} {G H : Hp} {as : List Addr} {ds : List D} {vs : List V} {Q : VK} (W : Wd K G H as ws) (rs : Reps K as G ds vs) (P : Post K E (Rep K) G H as (mkR kp c m ds ws) Q) : tMkA K (He.ga K c) m E Q vs H := by
  intro x dx hx hdx hne
  have P' : Post K E (Rep K) G H as ((m (.cell ws.length :: ds) (ws ++ [.ins c [] []])).bind fun z ws2 => match z with
      | .non => .ok (.cell ws.length) ws2
      | _ => .bad) Q := by
    unfold mkR at P
    dsimp only at P
    split at P
    · exact P
    · exact frz_post W P
  have W1 := W.newH (o := .own x) hdx
  have hx1 : upd H dx (.own x) x = none := by rw [upd_ne (Ne.symm hne)]; exact hx
  have r1 := Rch.newH (as := as) (G := G) (o := .own x) hdx
  have r2 := Rch.cell (as := as) (G := G) (H := upd H dx (.own x)) (o := .ins (He.ga K c) dx []) hx1
  have W2 := W1.cell (c := .ins c [] []) (o := .ins (He.ga K c) dx []) hx1 ⟨dx, [], rfl, rfl, Reps.nil⟩
  refine ⟨G, as ++ [x], ws ++ [.ins c [] []], .cell ws.length :: ds, W2, Reps.cons (rep_cell W) (rs.up (prefix_snoc _ _) (Same.refl _)), ?_⟩
  refine Post.bind0 P' (r1.trans r2) fun z ws2 vz G1 H1 as1 q1 w1 rz P1 => ?_
  cases z with
  | non =>
    simp only [Rep] at rz
    refine ⟨rz, P1 _ G1 H1 as1 ((r1.trans r2).trans q1) w1 ?_⟩
    exact (rep_cell W).up q1.pre q1.up
  | _ => exact False.elim P1
end
structure AK (K : PySem.W.Frag) (X : Cx) (E : XK) (kws : List Keyword) (tk : TA) (f : Sa) : Prop where
  hK : X.K = K
  pe : PK X kws tk
  ev : EvA K E tk f
section
variable {K : PySem.W.Frag} {X : Cx} {E : XK} {e : Expr} {es : List Expr} {kws : List Keyword} {te : TE} {t tk : TA} {se : Se} {sa sk : Sa} {nm : Option Str} {kpos p pos sp_ : Pos} {k : Nat} {f : Addr} {ks : List Str} {m : Mf} {c x : Str} {kp : Bool}
theorem ak_nil (hK : X.K = K := by rfl) : AK K X E [] tNil sNil := ⟨hK, pk_nil, evNil⟩
theorem ak_cons (he : AE K X E e te se) (hr : AK K X E kws tk sk) : AK K X E (⟨nm, e, kpos⟩ :: kws) (tCons te tk) (sCons se sk) := by
  refine ⟨he.hK, pk_cons he.pe hr.pe, fun ρ ws G H as σ Q W S P => he.ev ρ ws G H as σ _ W S (Post.bind P fun x ws1 bx G1 H1 as1 r1 W1 rx P1 => ?_)⟩
  refine hr.ev ρ ws1 G1 H1 as1 σ _ W1 (S.up r1.pre r1.up) (Post.bind P1 fun xs ws2 vs G2 H2 as2 r2 W2 rs P2 => ?_)
  exact Post.done P2 W2 (Reps.cons (rx.up r2.pre r2.up) rs)
def sMk (kp : Bool) (c : Str) (m : Mf) (a b : Sa) : Se := fun ρ ws => (a ρ ws).bind fun ds ws1 => (b ρ ws1).bind fun zs ws2 => mkR kp c m (ds ++ zs) ws2
def tMk (K : PySem.W.Frag) (C : Addr) (n : Nat) (m : Mf) (E : XK) (t tk : TA) : TE := fun σ H Q => t σ H fun vs H1 => tk σ H1 fun zs H2 => zs.length = n ∧ tMkA K C m E Q (vs ++ zs) H2
/-- what making needs -/
structure MkC (X : Cx) (k : Nat) (E : XK) (x c : Str) (ks : List Str) (m : Mf) : Prop where
  ok : ∃ f, Mk X.K (He.ga X.K c) f ∧ FnA X.prog X.w X.K X.mg X.base k f ks m
  mg : X.mg x = some (.ref (He.ga X.K c))
  px : Passes (cxk X.prog X.w) X E
theorem ev_mk {n : Nat} (h1 : EvA K E t sa) (h2 : EvA K E tk sk) (hn : ∀ ρ ws l ws', sk ρ ws = .ok l ws' → l.length = n) : EvE K E (tMk K (He.ga K c) n m E t tk) (sMk kp c m sa sk) := fun ρ ws G H as σ Q W S P => by
  refine h1 ρ ws G H as σ _ W S (Post.bind P fun ds ws1 vs G1 H1 as1 r1 W1 rs P1 => ?_)
  cases q : sk ρ ws1 with
  | bad =>
    rw [q] at P1
    exact False.elim P1
  | ex e w' =>
    refine h2 ρ ws1 G1 H1 as1 σ _ W1 (S.up r1.pre r1.up) ?_
    rw [q] at P1 ⊢
    exact P1
  | ok l w' =>
    refine h2 ρ ws1 G1 H1 as1 σ _ W1 (S.up r1.pre r1.up) ?_
    have hl := hn ρ ws1 l w' q
    rw [q] at P1 ⊢
    intro zs G2 H2 as2 r2 W2 rz
    exact ⟨by rw [← rz.len]; exact hl, mk_ev W2 ((rs.up r2.pre r2.up).app rz) (Post.from P1 r2)⟩
theorem ae_mk (M : MkC X k E x c ks m) (hr : Room (k + 1) X.A) (ha : AA K X E (e :: es) t sa) (hk : AK K X E kws tk sk) (hn : ∀ ρ ws l ws', sk ρ ws = .ok l ws' → l.length = ks.length) (hg : Gl X x := by rfl)
    (hall : (backToKw pos (keywordEach kws X.env)).all (·.1.isSome) = true := by rfl) (hks : (backToKw pos (keywordEach kws X.env)).filterMap (·.1) = ks := by rfl) (hdb : (x == ("__debug__" : Str)) = false := by decide)
    (he : starEach (e :: es) X.env = (false, eval e X.env) :: starEach es X.env := by rfl) (hpl : ((backTo pos (starEach (e :: es) X.env)).any (·.1) || (backToKw pos (keywordEach kws X.env)).any (·.1.isNone)) = false := by rfl) :
    AE K X E (.Call (.Name x p) (e :: es) kws pos) (tMk K (He.ga K c) ks.length m E t tk) (sMk kp c m sa sk) := by
  have e0 := ha.hK
  subst e0
  obtain ⟨f, Mf', F⟩ := M.ok
  refine ⟨rfl, ⟨fun pins s σ H Q I h => wpAny_Call_Name_kw (ld_glob I hg M.mg ?_ hdb)⟩, ev_mk ha.ev hk.ev hn⟩
  refine PySem.W.callWith_KW (h₀ := X.base) I.ok.mod.kin Mf'.kp hall (thn (ha.pe.run pos pins s σ H _ I h) fun us s1 ⟨vs, H1, I1, r, q⟩ => ?_) hpl he
  refine thn (hk.pe.run pos pins s1 σ H1 _ I1 q) fun us2 s2 ⟨zs, H2, I2, rz, l2, q2⟩ => ⟨I2.kIn, ?_⟩
  rw [hks]
  exact run_mk Mf' F hr M.px I2 r rz (by rw [← rz.length]; exact l2) q2
theorem ae_mk0 (M : MkC X k E x c ks m) (hr : Room (k + 1) X.A) (hk : AK K X E kws tk sk) (hn : ∀ ρ ws l ws', sk ρ ws = .ok l ws' → l.length = ks.length) (hg : Gl X x := by rfl)
    (hall : (backToKw pos (keywordEach kws X.env)).all (·.1.isSome) = true := by rfl) (hks : (backToKw pos (keywordEach kws X.env)).filterMap (·.1) = ks := by rfl) (hdb : (x == ("__debug__" : Str)) = false := by decide)
    (hpl : ((backTo pos (starEach [] X.env)).any (·.1) || (backToKw pos (keywordEach kws X.env)).any (·.1.isNone)) = false := by rfl) :
    AE K X E (.Call (.Name x p) [] kws pos) (tMk K (He.ga K c) ks.length m E tNil tk) (sMk kp c m sNil sk) := by
  have e0 := hk.hK
  subst e0
  obtain ⟨f, Mf', F⟩ := M.ok
  refine ⟨rfl, ⟨fun pins s σ H Q I h => wpAny_Call_Name_kw (ld_glob I hg M.mg ?_ hdb)⟩, ev_mk evNil hk.ev hn⟩
  refine PySem.W.callWith_KW0 (h₀ := X.base) I.ok.mod.kin Mf'.kp hall ?_ hpl
  refine thn (hk.pe.run pos pins s σ H _ I h) fun us2 s2 ⟨zs, H2, I2, rz, l2, q2⟩ => ⟨I2.kIn, ?_⟩
  rw [hks]
  exact run_mk (us := []) (vs := []) Mf' F hr M.px I2 .nil rz (by rw [← rz.length]; exact l2) q2
end
end RL
set_option Elab.async false
set_option linter.all false
set_option maxRecDepth 100000
/-! RL12: new instances from starred arguments; properties; classmethods. -/
namespace RL
open PySem PySem.Spec PyProof.Rows L2
variable [kd : KdC]
section
variable {M : Model} {A : Around} {E : Value → Shared → Prop} {s : Shared}
open PySem.W in
/-- one starred argument, then values by name: its items are taken last -/
theorem lone_kw {f : Value} {x : Sem Value} {pos : Pos} {kws : List (Option Str × Sem Value)} {Q : Args → Shared → Prop} (hall : kws.all (·.1.isSome) = true)
    (h : wpAny M A x (fun v s₁ => wpAny M A (evalAll (kws.map (·.2))) (fun zs s₂ => StarOf M A E v (fun vs s₃ => Q ⟨vs, (kws.filterMap (·.1)).zip zs⟩ s₃) s₂) E s₁) E s) :
    wpAny M A (evalArgs f true [(true, (do let v ← x; standAt pos; pure v))] kws) Q E s := by
  unfold evalArgs
  refine wpAny_bind (wpAny_bind (wpAny_mono h (fun v s₁ h₁ => ?_) fun _ _ x => x))
  refine wpAny_bind (wpAny_standAt (wpAny_pure (wpAny_bind (wpAny_pure ?_))))
  refine wpAny_holding ?_
  dsimp only
  rw [if_pos hall]
  refine wpAny_bind (wpAny_mono h₁ (fun zs s₂ h₂ => ?_) fun _ _ x => x)
  unfold StarOf at h₂
  refine wpAny_bind ?_
  refine wpAny_bind (wpAny_mono h₂ (fun b s₃ h₃ => ?_) fun _ _ x => x)
  obtain ⟨rfl, h₃⟩ := h₃
  simp only [Bool.false_eq_true, if_false]
  exact wpAny_holding (wpAny_mono h₃ (fun vs s₄ h₄ => wpAny_pure h₄) fun _ _ x => x)
open PySem.W in
theorem call_starred {f : Value} {first : List Value} {pos : Pos} {Q : Value → Shared → Prop} {P : Heap → Prop} {args : List (Bool × Sem Value)} {kws : List (Option Str × Sem Value)} (hst : args.any (·.1) = true)
    (hk : ∀ h, P h → ∃ k, (k = Keeper.frame ∨ k = Keeper.machine ∨ k = Keeper.boundFrame) ∧ Looks M h (keeperOf f) k)
    (h : wpAny M A (evalArgs f true args kws) (fun a s₁ => P s₁.heap ∧ wpAny M A (call f (first ++ a.pos) a.kw) Q E s₁) E s) : wpAny M A (callWith pos f first args kws) Q E s := by
  unfold callWith
  refine wpAny_bind (wpAny_holding (wpAny_mono h (fun a s₁ h₁ => wpAny_bind (wpAny_standAt ?_)) fun _ _ x => x))
  obtain ⟨k, hk', L⟩ := hk _ h₁.1
  simp only [hst, Bool.true_or]
  refine wpAny_bind (L.here ?_)
  have last : ∀ {t : Sem Value}, wpAny M A t Q E s₁ → wpAny M A (t >>= fun r => holding [r] point >>= fun _ => pure r) Q E s₁ := fun ht =>
    wpAny_bind (wpAny_mono ht (fun r s₂ hr => wpAny_bind (wpAny_holding (wpAny_point (wpAny_pure hr)))) fun _ _ x => x)
  have mark : ∀ mk : Value, wpAny M A (callMarked mk f (first ++ a.pos) a.kw) Q E s₁ := fun mk => by
    unfold callMarked
    exact Calls.wpAny_keep h₁.2
  rcases hk' with rfl | rfl | rfl <;> dsimp only <;> first | exact last (mark _) | exact last (wpAny_operating h₁.2)
end
section
variable {K : PySem.W.Frag} {X : Cx} {E : XK} {e : Expr} {kws : List Keyword} {te : TE} {tk : TA} {se : Se} {sk : Sa} {p pos sp_ : Pos} {k : Nat} {ks : List Str} {m : Mf} {c x : Str} {kp : Bool}
def sMkS (kp : Bool) (c : Str) (m : Mf) (a : Se) (b : Sa) : Se := fun ρ ws => (a ρ ws).bind fun d ws1 => (b ρ ws1).bind fun zs ws2 => match seqOf ws2 d with
  | some l => mkR kp c m (l ++ zs) ws2
  | none => .bad
def tMkS (K : PySem.W.Frag) (C : Addr) (n : Nat) (m : Mf) (E : XK) (te : TE) (tk : TA) : TE := fun σ H Q => te σ H fun v H1 => tk σ H1 fun zs H2 => zs.length = n ∧ ∃ a xs, v = .ref a ∧ (SqT K H2 a xs ∨ SqL K H2 a xs) ∧ tMkA K C m E Q (xs ++ zs) H2
theorem ae_mkS (M : MkC X k E x c ks m) (hr : Room (k + 1) X.A) (he : AE K X E e te se) (hk : AK K X E kws tk sk) (hn : ∀ ρ ws l ws', sk ρ ws = .ok l ws' → l.length = ks.length) (hg : Gl X x := by rfl)
    (hall : (backToKw pos (keywordEach kws X.env)).all (·.1.isSome) = true := by rfl) (hks : (backToKw pos (keywordEach kws X.env)).filterMap (·.1) = ks := by rfl) (hdb : (x == ("__debug__" : Str)) = false := by decide)
    (hst : starEach [.Starred e sp_] X.env = [(true, eval e X.env)] := by rfl) :
    AE K X E (.Call (.Name x p) [.Starred e sp_] kws pos) (tMkS K (He.ga K c) ks.length m E te tk) (sMkS kp c m se sk) := by
  have e0 := he.hK
  subst e0
  obtain ⟨f, Mf', F⟩ := M.ok
  refine ⟨rfl, ⟨fun pins s σ H Q I h => wpAny_Call_Name_kw (ld_glob I hg M.mg ?_ hdb)⟩, fun ρ ws G H as σ Q W S P => ?_⟩
  · rw [hst]
    refine call_starred (P := fun h => X.K.In h) rfl (PySem.W.keeps_K Mf'.kp) (lone_kw hall ?_)
    refine thn (he.pe.run pins s σ H _ I h) fun v s1 ⟨y, H1, I1, ry, q⟩ => ?_
    refine thn (hk.pe.run pos pins s1 σ H1 _ I1 q) fun us2 s2 ⟨zs, H2, I2, rz, l2, a, xs, ey, hxs, q2⟩ => ?_
    subst ey
    obtain rfl : v = Value.ref a := ry
    refine StX.star_any I2 hxs fun us s3 I3 rv => ⟨I3.kIn, ?_⟩
    rw [hks]
    exact run_mk Mf' F hr M.px I3 rv rz (by rw [← rz.length]; exact l2) q2
  · refine he.ev ρ ws G H as σ _ W S (Post.bind P fun d ws1 v G1 H1 as1 r1 W1 rd P1 => ?_)
    cases q : sk ρ ws1 with
    | bad =>
      rw [q] at P1
      exact False.elim P1
    | ex e w' =>
      refine hk.ev ρ ws1 G1 H1 as1 σ _ W1 (S.up r1.pre r1.up) ?_
      rw [q] at P1 ⊢
      exact P1
    | ok l w' =>
      refine hk.ev ρ ws1 G1 H1 as1 σ _ W1 (S.up r1.pre r1.up) ?_
      have hl := hn ρ ws1 l w' q
      rw [q] at P1 ⊢
      intro zs G2 H2 as2 r2 W2 rz
      refine ⟨by rw [← rz.len]; exact hl, ?_⟩
      rw [R.bind_ok] at P1
      cases qs : seqOf w' d with
      | none =>
        rw [qs] at P1
        exact False.elim P1
      | some l2 =>
        rw [qs] at P1
        obtain ⟨a, xs, e1, e2, e3⟩ := seq_rep W2 qs (rd.up r2.pre r2.up)
        exact ⟨a, xs, e1, e2.symm, mk_ev W2 (e3.app rz) (Post.from P1 r2)⟩
end
/-! ### properties -/
/-- e.f, a property that m answers -/
structure PrC (X : Cx) (k : Nat) (c f : Str) (m : Mf) : Prop where
  ok : ∃ p g fd ps, PropOf X.K (He.ga X.K c) f p g ∧ FnOk X.prog X.w X.K X.mg X.base (cxk X.prog X.w) k g fd ps (spM X.K m) ∧ Binds X.K fd ps []
  cl : Cls X.K (He.ga X.K c)
def sProp (c : Str) (m : Mf) (a : Se) : Se := fun ρ ws => (a ρ ws).bind fun x ws1 => if isIns c ws1 x = true then nox (m [x] ws1) else .bad
section
variable {K : PySem.W.Frag} {X : Cx} {E : XK} {e : Expr} {es : List Expr} {te : TE} {se : Se} {ta : TA} {sa : Sa} {pos p apos : Pos} {k : Nat} {m : Mf} {c f x : Str}
theorem ae_prop (C : PrC X k c f m) (hr : Room (k + 1) X.A) (h : AE K X E e te se) (hb : attributeBase e f X.env (eval e X.env) = eval e X.env := by rfl) : AE K X E (.Attribute e f pos) (tProp (He.ga K c) (spM K m) [] E0 te) (sProp c m se) := by
  have e0 := h.hK
  subst e0
  obtain ⟨pp, g, fd, ps, h1, h2, h3⟩ := C.ok
  refine ⟨rfl, pe_prop h.pe C.cl h1 h2 hr h3 .nil pass_nox hb, fun ρ ws G H as σ Q W S P => h.ev ρ ws G H as σ _ W S (Post.bind P fun d ws1 v G1 H1 as1 r1 W1 rd P1 => ?_)⟩
  split at P1
  · rename_i hi
    obtain ⟨⟨kk, l⟩, hk⟩ := Option.isSome_iff_exists.mp hi
    obtain ⟨a, dx, vs, e1, e2, e3, e4⟩ := ins_rep W1 hk rd
    subst e1
    exact ⟨a, dx, _, rfl, e2, G1, as1, ws1, [d], W1, Reps.one rd, nox_post P1⟩
  · exact False.elim P1
/-! ### classmethods -/
/-- C.mth(..) does m (behind the class itself) -/
structure CmC (X : Cx) (k : Nat) (E : XK) (x c mth : Str) (m : Mf) : Prop where
  ok : ∃ mc p g fd ps, ClX.CRead X.K (He.ga X.K c) mc ∧ ClX.CMet X.K (He.ga X.K c) mc mth p g ∧ FnOk X.prog X.w X.K X.mg X.base (cxk X.prog X.w) k g fd ps (spM X.K m) ∧ Binds X.K fd ps []
  mg : X.mg x = some (.ref (He.ga X.K c))
  px : Passes (cxk X.prog X.w) X E
theorem fnr_of {P : Program} {w : World} {K : PySem.W.Frag} {mg : Str → Option Value} {base : Heap} {k : Nat} {f : Addr} {fd : FuncData} {ps : List Str} {m : Mf} (F : FnOk P w K mg base (cxk P w) k f fd ps (spM K m)) (hb : Binds K fd ps []) : FnR P w K mg base (cxk P w) k f (spM K m) := by
  intro A outer s H us vs Q E hr e0 r h
  have z := fna_of F hb A outer s H us [] vs [] Q E hr e0 r .nil rfl (by rw [List.append_nil]; exact h)
  exact z
def sCm (c : Str) (m : Mf) (a : Sa) : Se := fun ρ ws => (a ρ ws).bind fun ds ws1 => m (.cls c :: ds) ws1
theorem ae_cm {pl : Sem Bool} {mth : Str} {np : Pos} (C : CmC X k E x c mth m) (hr : Room k X.A) (ha : AA K X E (e :: es) ta sa) (hg : Gl X x := by rfl) (hdb : (x == ("__debug__" : Str)) = false := by decide)
    (hst : starEach (e :: es) X.env = (false, eval e X.env) :: starEach es X.env := by rfl) (hpl : (backTo pos (starEach es X.env)).any (·.1) = false := by rfl)
    (ht : eval (.Call (.Attribute (.Name x np) mth apos) (e :: es) [] pos) X.env = (do
      let ov ← eval (.Name x np) X.env
      standAt apos.atName
      let (f, first) ← holding [ov] (getMethod ov mth pl)
      callWith pos f first (backTo pos (starEach (e :: es) X.env)) (backToKw pos (keywordEach [] X.env))) := by rfl) :
    AE K X E (.Call (.Attribute (.Name x np) mth apos) (e :: es) [] pos) (ClX.tCMeth (He.ga K c) (spM K m) E (tC (.ref (He.ga K c))) ta) (sCm c m sa) := by
  have e0 := ha.hK
  subst e0
  obtain ⟨mc, pp, g, fd, ps, h1, h2, h3, h4⟩ := C.ok
  refine ⟨rfl, ClX.pe_cmeth (pe_glob hg C.mg rfl hdb) h1 h2 (fnr_of h3 h4) hr C.px ha.pe hst hpl ht, fun ρ ws G H as σ Q W S P => ⟨rfl, ha.ev ρ ws G H as σ _ W S (Post.bind P fun ds ws1 vs G1 H1 as1 r1 W1 rs P1 => ?_)⟩⟩
  exact ⟨G1, as1, ws1, .cls c :: ds, W1, Reps.cons (by simp [Rep]) rs, P1⟩
end
end RL
set_option Elab.async false
set_option linter.all false
set_option maxRecDepth 100000
/-! RL13: what an own __iter__ (iter of a tuple field) gives, in list(x) and [*x]. -/
namespace RL
open PySem PySem.Spec PyProof.Rows L2
variable [kd : KdC]
/-- at it an iterator over the tuple at t, the next place is i -/
def TIt (t it : Addr) (i : Nat) : HO := .ext fun h => h.IsTupleIter it t i
/-- something stands there -/
def TAny (it : Addr) : HO := .ext fun h => ∃ o, h.get? it = some o
theorem tit_ok {P : Program} {w : World} {H : Hp} {h : Heap} {t it : Addr} {i : Nat} (e : h.IsTupleIter it t i) : ObjOk P w H h it (TIt t it i) := ⟨e, let ⟨o, q, _⟩ := e; ⟨o, q⟩, fun h1 h2 ⟨o, q, r⟩ k => ⟨o, k o q, r⟩⟩
theorem tany_ok {P : Program} {w : World} {H : Hp} {h : Heap} {it : Addr} (e : ∃ o, h.get? it = some o) : ObjOk P w H h it (TAny it) := ⟨e, e, fun h1 h2 ⟨o, q⟩ k => ⟨o, k o q⟩⟩
theorem tit_get {X : Cx} {pins : List (Addr × Obj)} {σ : L2.St} {H : Hp} {s : Shared} {t it : Addr} {i : Nat} (I : Inv X pins σ H s) (e : H it = some (TIt t it i)) : s.heap.IsTupleIter it t i := (I.hok it _ e).1
theorem tit_code {X : Cx} {pins : List (Addr × Obj)} {σ : L2.St} {H : Hp} {s : Shared} {t it : Addr} {i : Nat} (I : Inv X pins σ H s) (e : H it = some (TIt t it i)) (q : Str) : TIt t it i ≠ LamX.CodeO it q := fun z => by
  have h1 := tit_get I e
  rw [z] at e
  obtain ⟨⟨oc, vs, tk, f1, f2, f3⟩, _⟩ := I.hok it _ e
  obtain ⟨o, g1, g2⟩ := h1
  rw [f1] at g1
  cases g1
  rw [f2] at g2
  have g3 := g2.2
  cases g3
  simp at f3
def rIterT (K : PySem.W.Frag) : List V → Hp → VK → Prop := fun xs H Q => ∃ (t : Addr) (zs : List V), xs = [.ref t] ∧ SqT K H t zs ∧ ∀ it, H it = none → Q (.ref it) (upd H it (TIt t it 0))
theorem call_iterT {X : Cx} : CallR X (.builtin "iter") (rIterT X.K) := by
  intro pins s σ H xs us Q I r h
  obtain ⟨t, zs, rfl, hq, q⟩ := h
  obtain rfl := Vals.ref1 r
  obtain ⟨its, rv, pl, hz⟩ := I.tuple hq
  refine Calls.call_function_entry (by decide +kernel) (by decide +kernel) PySem.W.kdk_entry_iter (PySem.W.kdk_args_iter _) ?_
  unfold Builtin.«iter»
  refine wpAny_bind (m := someArgs "iter" 1 2 _) (wpAny_of_eq (a := [Value.ref t]) (by first | rfl | kernel_rfl!) (wpAny_bind (m := pyIter (.ref t)) (wpAny_pyIter_tuple pl (wpAny_pure ⟨_, rfl, ?_⟩))))
  exact ⟨.ref s.heap.objs.size, _, I.laid (t' := s.toks) (fun b u e => Heap.get?_push_of_some _ e) (Nat.le_refl _) (tit_ok ⟨_, Heap.get?_push_size _ rfl, rfl, rfl⟩), rfl, q _ (I.hok.fresh (Nat.le_refl _))⟩
section
variable {prog : Program} {w : World} {A : Around} {E : Value → Shared → Prop} {s : Shared}
/-- a tuple's iterator ends; it still stands there -/
theorem next_endT {it t : Addr} {i : Nat} {items : Array Value} {Q : Option Value → Shared → Prop} (hh : A.handled = none) (hit : s.heap.IsTupleIter it t i) (ht : s.heap.IsTuple t items) (hx : items[i]? = none)
    (hQ : ∀ h', (∃ o, h'.get? it = some o) → Heap.ExtBut it s.heap h' → Q none { s with heap := h' }) : wpAny (model prog w) A (pyNext (.ref it)) Q E s := by
  obtain ⟨o, ho, hc, hd⟩ := id hit
  obtain ⟨ol, hol, _, nl, hdl⟩ := ht
  have fd0 : ∀ {R : Value → Shared → Prop} {B : Around} {E' : Value → Shared → Prop}, R (.ref t) s → wpAny (model prog w) B (field (.ref it) 0) R E' s := fun q => wpAny_field ho hd (x := .ref t) rfl q
  have fd1 : ∀ {R : Value → Shared → Prop} {B : Around} {E' : Value → Shared → Prop}, R (.int i 0) s → wpAny (model prog w) B (field (.ref it) 1) R E' s := fun q => wpAny_field ho hd (x := .int i 0) rfl q
  unfold pyNext
  refine wpAny_bind (wpAny_attempt (wpAny_callSpecial?_slot (name := Str.ofString "__next__") hit.typeIs F.slot_tuple_iterator_next (wpAny_call_entry F.slot_tuple_iterator_next hit.typeIs F.entry_tuple_iterator_next ?_ (F.args_tuple_iterator_next_1 _))))
  show wpAny _ _ (field (.ref it) 0 >>= _) _ _ s
  refine wpAny_bind (fd0 ?_)
  show wpAny _ _ (if (Value.ref t == Value.none) = true then _ else _) _ _ s
  rw [if_neg (show ¬ ((Value.ref t == Value.none) = true) from Bool.false_ne_true)]
  show wpAny _ _ (field (.ref it) 1 >>= _) _ _ s
  refine wpAny_bind (fd1 ?_)
  show wpAny _ _ (seqItems? (.ref t) >>= _) _ _ s
  refine wpAny_bind (wpAny_seqItems hol hdl ?_)
  simp only [Int.toNat_natCast, hx]
  refine wpAny_bind (wpAny_rule (wpAny_bind (wpAny_setField ho hd (by simp) ?_)))
  show wpAny _ _ (newExc (.type "StopIteration") [] >>= _) _ _ _
  refine wpAny_bind ?_
  simp only [newExc, newTuple]
  refine wpAny_bind (wpAny_newObj_type (wpAny_bind (m := firstArgMember _ _) (wpAny_of_eq (a := Value.none) (by first | rfl | (simp only [firstArgMember]; rfl)) (wpAny_newObj_type ?_ (by size_fits)))) (by size_fits))
  simp only [raiseNew]
  refine wpAny_bind (wpAny_handled ?_)
  first | rw [show A.in1.handled = none from hh] | rw [hh]
  refine wpAny_bind (wpAny_pure (wpAny_throw (wpAny_bind ?_)))
  refine wpAny_isInstance (b := true) (T := "StopIteration") ⟨_, Heap.get?_push_size _ rfl, rfl⟩ isSubtype_stop ?_
  refine wpAny_pure (hQ _ ?_ (((Heap.SameBut.update ..).extBut.push _).push _))
  exact ⟨_, Heap.get?_push_of_some _ (Heap.get?_push_of_some _ (Heap.get?_update_self _ ho (Obj.isFreed_of_fields (Obj.data_mapFields hd _))))⟩
end
section
variable {X : Cx} {pins : List (Addr × Obj)} {σ : L2.St} {A1 : Around} {Rs : Result → Shared → Prop}
/-- the loop that fills the list at q from the iterator -/
theorem fill_loop {t it q : Addr} {xs : List V} {res : Value} (hh : A1.in1.handled = none) {H2 : Hp} (hqi : q ≠ it) (hti : t ≠ it) (htq : t ≠ q) (ht : SqT X.K H2 t xs) (hz : xs.length ≤ sizeLine)
    (done : ∀ s, Inv X pins σ (upd (upd H2 it (TAny it)) q (.lst xs)) s → Rs (.ok (.ret res)) s) :
    ∀ (k i : Nat) (s : Shared), xs.length - i = k → i ≤ xs.length → Inv X pins σ (upd (upd H2 it (TIt t it i)) q (.lst (xs.take i))) s → codeAny (model X.prog X.w) A1 (.builtin "list.extend.loop" ⟨[.ref q, .ref it, res], []⟩) Rs s := by
  intro k
  induction k with
  | zero =>
    intro i s hk hi I
    have hin : i = xs.length := by omega
    subst hin
    have e1 : upd (upd H2 it (TIt t it xs.length)) q (.lst (xs.take xs.length)) it = some (TIt t it xs.length) := by rw [upd_ne (Ne.symm hqi), upd_same]
    have ht' : SqT X.K (upd (upd H2 it (TIt t it xs.length)) q (.lst (xs.take xs.length))) t xs := by
      rcases ht with (h | ⟨o, h⟩) | h
      · exact .inl (.inl (by rw [upd_ne htq, upd_ne hti]; exact h))
      · exact .inl (.inr ⟨o, by rw [upd_ne htq, upd_ne hti]; exact h⟩)
      · exact .inr h
    obtain ⟨its, rv, p, _⟩ := I.tuple ht'
    refine codeAny_builtin PySem.F.entry_extend_loop ?_
    rw [Around.under_plainId PySem.F.plain_extend_loop _]
    show wpAny _ A1.in1 (pyNext (.ref it) >>= _) _ _ s
    refine wpAny_bind (next_endT hh (tit_get I e1) p (by have := rv.length; simp; omega) fun h' ex eb => wpAny_pure (done _ ?_))
    have J := I.write (x := it) (e := it) (o := TAny it) (t' := s.toks) (by rw [e1]; exact True.intro) (.inl rfl) (fun b o nb z => eb b o nb z) ex (tany_ok ex)
    have : upd (upd (upd H2 it (TIt t it xs.length)) q (.lst (xs.take xs.length))) it (TAny it) = upd (upd H2 it (TAny it)) q (.lst xs) := by
      funext b
      by_cases hb : b = it
      · rw [hb, upd_same, upd_ne (Ne.symm hqi), upd_same]
      · by_cases hb2 : b = q
        · rw [hb2, upd_ne hqi, upd_same, upd_same, List.take_length]
        · rw [upd_ne hb, upd_ne hb2, upd_ne hb, upd_ne hb2, upd_ne hb]
    rw [this] at J
    exact J
  | succ k ih =>
    intro i s hk hi I
    have hlt : i < xs.length := by omega
    have e1 : upd (upd H2 it (TIt t it i)) q (.lst (xs.take i)) it = some (TIt t it i) := by rw [upd_ne (Ne.symm hqi), upd_same]
    have ht' : SqT X.K (upd (upd H2 it (TIt t it i)) q (.lst (xs.take i))) t xs := by
      rcases ht with (h | ⟨o, h⟩) | h
      · exact .inl (.inl (by rw [upd_ne htq, upd_ne hti]; exact h))
      · exact .inl (.inr ⟨o, by rw [upd_ne htq, upd_ne hti]; exact h⟩)
      · exact .inr h
    obtain ⟨its, rv, p, _⟩ := I.tuple ht'
    obtain ⟨u, hu, ru⟩ := rv.get (List.getElem?_eq_getElem hlt)
    refine codeAny_builtin PySem.F.entry_extend_loop ?_
    rw [Around.under_plainId PySem.F.plain_extend_loop _]
    show wpAny _ A1.in1 (pyNext (.ref it) >>= _) _ _ s
    refine wpAny_bind (wpAny_pyNext_tuple_item (tit_get I e1) p (x := u) (by simpa using hu) fun h' st' sb => ?_)
    have J := I.write (x := it) (e := it) (o := TIt t it (i + 1)) (t' := s.toks) (by rw [e1]; exact True.intro) (.inl rfl) (fun b o nb z => (sb.2 b nb).trans z) (let ⟨o, z, _⟩ := st'; ⟨o, z⟩) (tit_ok st')
    have e2 : upd (upd (upd H2 it (TIt t it i)) q (.lst (xs.take i))) it (TIt t it (i + 1)) q = some (.lst (xs.take i)) := by rw [upd_ne hqi, upd_same]
    obtain ⟨z, itq, c, rq, lq, eq⟩ := J.lstM e2
    show wpAny _ A1.in1 (updateSeq q (·.push u) >>= _) _ _ _
    refine wpAny_bind (wpAny_updateSeq eq rfl (wpAny_pure ⟨plainId_quiet PySem.F.plain_extend_loop _, ih (i + 1) _ (by omega) hlt ?_⟩) (by rw [List.size_toArray, ← lq, List.length_take]; omega) (by show (itq.toArray.push u).size ≤ sizeLine + 1; rw [Array.size_push, List.size_toArray, ← lq, List.length_take]; omega))
    have J2 := J.lset (f := (·.push u)) (its' := itq ++ [u]) (ys := xs.take i ++ [xs[i]]) (t' := s.toks) e2 eq (by simp) (rq.append (.cons ru .nil)) (by rw [List.length_append, List.length_take, List.length_singleton]; omega)
    have : upd (upd (upd (upd H2 it (TIt t it i)) q (.lst (xs.take i))) it (TIt t it (i + 1))) q (.lst (xs.take i ++ [xs[i]])) = upd (upd H2 it (TIt t it (i + 1))) q (.lst (xs.take (i + 1))) := by
      have hx : xs.take (i + 1) = xs.take i ++ [xs[i]] := by rw [List.take_succ, List.getElem?_eq_getElem hlt] <;> rfl
      rw [hx]
      funext b
      by_cases hb2 : b = q
      · rw [hb2, upd_same, upd_same]
      · rw [upd_ne hb2, upd_ne hb2]
        by_cases hb : b = it
        · rw [hb, upd_same, upd_same]
        · rw [upd_ne hb, upd_ne hb2, upd_ne hb, upd_ne hb]
    rw [this] at J2
    exact J2
end
/-! ### the own __iter__ -/
/-- its promise: an iterator over the tuple in the field f -/
def spIt (K : PySem.W.Frag) (C : Addr) (f : Str) : Sp := fun vs H Q _ => ∃ a dx fs t xs, vs = [.ref a] ∧ H a = some (.ins C dx fs) ∧ fs.lookup f = some (.ref t) ∧ SqT K H t xs ∧ ∀ it, H it = none → Q (.ref it) (upd H it (TIt t it 0))
structure Itr1 (X : Cx) (n : Nat) (E : XK) (c f : Str) (mLen : Mf) : Prop where
  it : ∃ fi fd ps, FnOk X.prog X.w X.K X.mg X.base (cxk X.prog X.w) n fi fd ps (spIt X.K (He.ga X.K c) f) ∧ PySem.W.findIn X.K (.ref (He.ga X.K c)) "__iter__" = some (some (.ref fi)) ∧ PySem.W.isFn X.K (.ref fi) = true ∧ Binds X.K fd ps []
  ln : Dun X n E c "__len__" mLen
/-- what it gives -/
def itemsO (c f : Str) (i : Nat) (mLen : Mf) (d : D) (ws : List Ce) : Option (List D) := match insOf ws c d with
  | some (ks, l) => if okI ks f i = true then (match l[i]? with
      | some (.tup m) => (match mLen [d] ws with
        | .ok (.int n) ws' => if ws' = ws ∧ 0 ≤ n ∧ n < 100000 ∧ m.length ≤ 100000 then some m else none
        | _ => none)
      | _ => none)
    else none
  | none => none
theorem itemsO_some {c f : Str} {i : Nat} {mLen : Mf} {d : D} {ws : List Ce} {m : List D} (h : itemsO c f i mLen d ws = some m) :
    ∃ ks l n, insOf ws c d = some (ks, l) ∧ okI ks f i = true ∧ l[i]? = some (.tup m) ∧ mLen [d] ws = .ok (.int n) ws ∧ (0 ≤ n ∧ n < 100000) ∧ m.length ≤ 100000 := by
  unfold itemsO at h
  split at h
  · rename_i ks l h1
    split at h
    · rename_i h2
      split at h
      · rename_i m' h3
        split at h
        · rename_i n ws' h4
          split at h
          · rename_i h5
            cases h
            exact ⟨ks, l, n, h1, h2, h3, by rw [h4, h5.1], ⟨h5.2.1, h5.2.2.1⟩, h5.2.2.2⟩
          · cases h
        · cases h
      · cases h
    · cases h
  · cases h
/-- an own def that raises nothing, called from below -/
theorem own_run0 {X : Cx} {n : Nat} {f : Addr} {fd : FuncData} {ps : List Str} {m : Mf} (F : FnOk X.prog X.w X.K X.mg X.base (cxk X.prog X.w) n f fd ps (spM X.K m)) (hb : Binds X.K fd ps []) {A : Around} {pins : List (Addr × Obj)} {s : Shared} {σ : L2.St} {H : Hp} {vs : List V} {us : List Value} {Q : VK}
    {Ex : Value → Shared → Prop} (sb : Sub X n A) (I : Inv X pins σ H s) (r : Vals vs us) (h : spM X.K m vs H Q E0) : wpAny (model X.prog X.w) A (call (.ref f) us) (EP X pins σ Q) Ex s := by
  have e0 : Env0 X.prog X.w X.K X.mg X.base A X.stack s H := by
    have z := I.env0
    exact ⟨by rw [sb.fr]; exact z.frames, z.mod, z.bs, z.bsz, z.funs, z.frf, z.hok, z.bare⟩
  have hl := F.len _ _ _ _ h
  refine wpAny_call (codeAny_mono (F.run A X.stack s H ⟨us, []⟩ us vs _ E0 sb.room e0 (by
    have z := hb s us I.kIn (by rw [List.append_nil, ← r.length]; exact hl)
    simpa using z) r h) fun r' s' hq => ?_)
  cases r' with
  | error e =>
    exact (cxk_e0 hq).elim
  | ok fl =>
    cases fl with
    | ret w => exact I.after hq
    | next => exact False.elim hq
    | brk => exact False.elim hq
    | cont => exact False.elim hq
section
variable {X : Cx} {n i : Nat} {E : XK} {c f : Str} {mLen : Mf} {pins : List (Addr × Obj)} {σ : L2.St}
theorem own_ext {A1 : Around} {Rs : Result → Shared → Prop} {H G : Hp} {as : List Addr} {ws : List Ce} {d : D} {m : List D} {a q : Addr} {s : Shared} {res : Value} (sb : Sub X (n + 1) A1.in1) (O : Itr1 X n E c f mLen) (I : Inv X pins σ H s) (W : Wd X.K G H as ws)
    (r : Rep X.K as G d (.ref a)) (hm : itemsO c f i mLen d ws = some m) (hq : H q = some (.lst [])) (hqa : q ∉ as) (hqG : G q = none)
    (done : ∀ s' G' H' as' xs, Inv X pins σ (upd H' q (.lst xs)) s' → Rch G H as G' H' as' → Wd X.K G' H' as' ws → Reps X.K as' G' m xs → Rs (.ok (.ret res)) s') :
    wpAny (model X.prog X.w) A1.in1 (Builtin.List.listExtendWith (.ref q) (.ref a) res) (fun fin s' => match fin with | .done fl => Rs (.ok fl) s' | .again c' => c'.quiet = true ∧ codeAny (model X.prog X.w) A1 c' Rs s') (fun e s' => Rs (.error e) s') s := by
  obtain ⟨ks, l, nn, h1, h2, h3, h4, h5, h6⟩ := itemsO_some hm
  obtain ⟨a', dx, vs, e1, e2, e3, e4⟩ := ins_rep W h1 r
  cases e1
  obtain ⟨v, e5, e6⟩ := e4.get h3
  simp only [Rep] at e6
  obtain ⟨t, xs, e7, e8, e9⟩ := e6
  subst e7
  have hqa' : q ≠ a := fun z => by
    rw [z, e2] at hq
    cases hq
  obtain ⟨mA, J, _⟩ := ins_get I.hok e2
  obtain ⟨od, J, _⟩ := J.look
  obtain ⟨mm, hF⟩ := I.fr
  obtain ⟨fi, fd, ps, FI, hs, hf, hb⟩ := O.it
  unfold Builtin.List.listExtendWith
  refine wpAny_bind (J.type.here ?_)
  have k1 : Builtin.List.listSameRef (.ref q) (.ref a) = false := by simp [Builtin.List.listSameRef, hqa']
  have k2 : (Value.ref (He.ga X.K c) == Value.type "list") = false := rfl
  have k3 : (Value.ref (He.ga X.K c) == Value.type "tuple") = false := rfl
  simp only [k1, k2, k3, Bool.or_false, Bool.false_eq_true, if_false]
  refine wpAny_bind (PySem.W.owit_iter hF I.ok.mod.kin J hs hf ?_)
  have sb0 : Sub X n A1.in1 := sb.mono (Nat.le_succ _)
  have e0 : Env0 X.prog X.w X.K X.mg X.base A1.in1 X.stack s H := by
    have z := I.env0
    exact ⟨by rw [sb.fr]; exact z.frames, z.mod, z.bs, z.bsz, z.funs, z.frf, z.hok, z.bare⟩
  have hsp : spIt X.K (He.ga X.K c) f [.ref a] H (fun v H' => ∃ it, v = .ref it ∧ H it = none ∧ H' = upd H it (TIt t it 0)) E0 := ⟨a, dx, _, t, xs, rfl, e2, lookup_zip h2 e5, .inl (.inl (W.le _ _ e8)), fun it hit => ⟨it, rfl, hit, rfl⟩⟩
  have hl := FI.len _ _ _ _ hsp
  refine wpAny_call (codeAny_mono (FI.run A1.in1 X.stack s H ⟨[.ref a], []⟩ [.ref a] [.ref a] _ E0 sb0.room e0 (by
    have z := hb s [.ref a] I.kIn (by simpa using hl)
    simpa using z) (.cons (show RelV (V.ref a) (Value.ref a) from rfl) .nil) hsp) fun r' s1 hq' => ?_)
  cases r' with
  | error e =>
    exact (cxk_e0 hq').elim
  | ok fl =>
    cases fl with
    | next => exact False.elim hq'
    | brk => exact False.elim hq'
    | cont => exact False.elim hq'
    | ret u =>
      obtain ⟨vv, H1, I1, rv, it, ev, hit, eH⟩ := I.after hq'
      subst ev eH
      obtain rfl : u = Value.ref it := rv
      have hiq : q ≠ it := fun z => by
        rw [z, hit] at hq
        cases hq
      have W1 := W.newH (o := TIt t it 0) hit
      have r1 := Rch.newH (as := as) (G := G) (o := TIt t it 0) hit
      have g1 : upd H it (TIt t it 0) it = some (TIt t it 0) := upd_same
      have T1 := (tit_get I1 g1).typeIs
      unfold PySem.W.OwitIt
      refine wpAny_specialOf T1 F.slot_tuple_iterator_next.lookup ?_
      dsimp only
      have ea1 : upd H it (TIt t it 0) a = some (.ins (He.ga X.K c) dx (ks.zip vs)) := by rw [upd_ne (ne_of_none e2 hit)]; exact e2
      obtain ⟨mA1, J1, _⟩ := ins_get I1.hok ea1
      obtain ⟨od1, J1, _⟩ := J1.look
      obtain ⟨mm1, hF1⟩ := I1.fr
      obtain ⟨fl, fdl, psl, FL, hsl, hfl, _, hbl⟩ := O.ln.ok
      refine wpAny_bind (wpAny_holding ?_)
      unfold Builtin.List.listLengthHint
      refine wpAny_bind (wpAny_bind (J1.type.here ((PySem.W.looks_findIn I1.kIn hsl).here ?_)))
      refine PySem.W.KFB.if_not rfl (PySem.W.KFB.if_so rfl (wpAny_bind (wpAny_rule (wpAny_bind (wpAny_attempt ?_)))))
      have hlen : spM X.K mLen [.ref a] (upd H it (TIt t it 0)) (fun z H2 => z = .int nn ∧ ∃ G2 as2, Rch G (upd H it (TIt t it 0)) as G2 H2 as2 ∧ Wd X.K G2 H2 as2 ws) E0 := by
        refine ⟨G, as, ws, [d], W1, Reps.one r, ?_⟩
        rw [h4]
        exact fun z G2 H2 as2 q w rz => ⟨by simpa [Rep] using rz, G2, as2, q, w⟩
      refine PySem.W.len_K hF1 I1.ok.mod.kin J1 hsl hfl (wpAny_mono (own_run0 FL hbl (A := A1.in1.in1) (us := [.ref a]) sb.in1 I1 (.cons (show RelV (V.ref a) (Value.ref a) from rfl) .nil) hlen) (fun r2 s2 hz => ?_) fun _ _ z => z)
      obtain ⟨zv, H2, I2, rz, ez, G2, as2, c2, W2⟩ := hz
      subst ez
      obtain ⟨tk, rfl⟩ := rz
      refine ⟨⟨h5.1, by omega⟩, ?_⟩
      dsimp only
      refine wpAny_bind (wpAny_of_eq (a := some nn) (by rfl) ?_)
      dsimp only
      refine PySem.W.KFB.if_not (L2.notLongL (small5 (by omega))) (wpAny_pure ?_)
      have git : G it = none := by
        cases z : G it with
        | none => rfl
        | some o =>
          rw [W.le _ _ z] at hit
          cases hit
      have hita : it ∉ as := fun z => (W.out it z).2.ne hit
      have n1 : Hn (upd H it (TIt t it 0)) it := ⟨_, upd_same, ext_tbl⟩
      have G2it : G2 it = none := c2.nw it n1 git
      have as2it : it ∉ as2 := fun z => (c2.fs it z).elim hita fun k => k n1
      have q1 : upd H it (TIt t it 0) q = some (.lst []) := by rw [upd_ne hiq]; exact hq
      have H2q : H2 q = some (.lst []) := c2.fr q _ hqa q1 (by intro _ z; cases z)
      have H2it : H2 it = some (TIt t it 0) := c2.fr it _ hita g1 ext_tbl
      have G2t : G2 t = some (.tup xs) := (r1.up.trans c2.up) _ _ e8
      have hti : t ≠ it := fun z => by
        rw [z, git] at e8
        cases e8
      have htq : t ≠ q := fun z => by
        rw [z, hqG] at e8
        cases e8
      have hH : upd (upd H2 it (TIt t it 0)) q (.lst (xs.take 0)) = H2 := by
        funext b
        by_cases hb : b = q
        · rw [hb, upd_same, H2q] <;> rfl
        · rw [upd_ne hb]
          by_cases hb2 : b = it
          · rw [hb2, upd_same, H2it]
          · rw [upd_ne hb2]
      have I3 : Inv X pins σ H2 { s2 with toks := s2.toks + 1 } := I2.tok _
      have hd : ∀ s', Inv X pins σ (upd (upd H2 it (TAny it)) q (.lst xs)) s' → Rs (.ok (.ret res)) s' := fun s' J => done s' G2 _ as2 xs J ((r1.trans c2).side hit ext_tbl) (W2.side G2it as2it (.of H2it ext_tbl (tit_code I2 H2it)) ext_tbl) (e9.up (r1.trans c2).pre (r1.trans c2).up)
      have hloop : ∀ s', Inv X pins σ H2 s' → codeAny (model X.prog X.w) A1 (.builtin "list.extend.loop" ⟨[.ref q, .ref it, res], []⟩) Rs s' := fun s' J =>
        fill_loop (X := X) (pins := pins) (σ := σ) sb.room.hd hiq hti htq (.inl (.inl (W2.le _ _ G2t))) (small5 (by rw [← e9.len]; exact h6)) hd _ 0 s' rfl (Nat.zero_le _) (by rw [hH]; exact J)
      refine wpAny_ite_split (fun _ => ?_) (fun _ => wpAny_pure ⟨plainId_quiet PySem.F.plain_extend_loop _, hloop _ I3⟩)
      obtain ⟨z, its, kk, r3, hl3, e3'⟩ := I3.lstM H2q
      cases r3
      refine wpAny_bind (wpAny_rule (wpAny_bind ?_))
      show wpAny _ _ (updateSeq q (·.push .none) >>= fun _ => updateSeq q (·.pop)) _ _ _
      refine wpAny_bind (wpAny_updateSeq e3' rfl ?_)
      have J1' := I3.lset (f := (·.push Value.none)) (its' := [Value.none]) (ys := [.non]) (t' := s2.toks + 1) H2q e3' (by simp) (.cons rfl .nil) (by rw [List.length_singleton, sizeLine_eq]; decide)
      obtain ⟨z4, its4, k4, r4, hl4, e4'⟩ := J1'.lstM upd_same
      obtain ⟨u4, rfl, ru4⟩ := r4.one
      refine wpAny_updateSeq e4' rfl (wpAny_pure ⟨plainId_quiet PySem.F.plain_extend_loop _, hloop _ ?_⟩) (by show 1 ≤ sizeLine; rw [sizeLine_eq]; decide) (by show 0 ≤ sizeLine + 1; exact Nat.zero_le _)
      have J2' := J1'.lset (f := (·.pop)) (its := [u4]) (its' := []) (ys := []) (t' := s2.toks + 1) upd_same e4' (by rfl) .nil (Nat.zero_le _)
      rw [upd_upd] at J2'
      have hH2 : upd H2 q (.lst []) = H2 := by
        funext b
        by_cases hb : b = q
        · rw [hb, upd_same, H2q]
        · rw [upd_ne hb]
      rw [hH2] at J2'
      exact J2'
end
end RL
set_option Elab.async false
set_option linter.all false
set_option maxRecDepth 100000
/-! RL14: list(x) and *x, x iterated by its own __iter__. -/
namespace RL
open PySem PySem.Spec PyProof.Rows L2
variable [kd : KdC]
section
variable {X : Cx} {n i : Nat} {E : XK} {c f : Str} {mLen : Mf}
def rListI (K : PySem.W.Frag) (E : XK) (c f : Str) (i : Nat) (mLen : Mf) : List V → Hp → VK → Prop := fun xs H Q => ∃ a G as ws d m, xs = [V.ref a] ∧ Wd K G H as ws ∧ Rep K as G d (.ref a) ∧ itemsO c f i mLen d ws = some m ∧ Post K E (Rep K) G H as (.ok (.cell ws.length) (ws ++ [.lst m])) Q
theorem fresh_g {K : PySem.W.Frag} {G H : Hp} {as : List Addr} {ws : List Ce} {p : Addr} (W : Wd K G H as ws) (h : H p = none) : G p = none ∧ p ∉ as := by
  refine ⟨?_, fun z => (W.out p z).2.ne h⟩
  cases z : G p with
  | none => rfl
  | some o =>
    rw [W.le _ _ z] at h
    cases h
theorem call_listI (O : Itr1 X n E c f mLen) (hr : Room (n + 1) X.A.in1.in1) : CallR X (.type "list") (rListI X.K E c f i mLen) := by
  intro pins s σ H xs us Q I rv h
  obtain ⟨a, G, as, ws, d, m, ex, W, r1, hm, P⟩ := h
  subst ex
  obtain ⟨u, rfl, ru⟩ := rv.one
  obtain rfl : u = Value.ref a := ru
  refine callType_codes (Q₁ := fun obj s₁ => obj = .ref s.heap.objs.size ∧ s₁ = { s with heap := s.heap.push { cls := .type "list", data := .seq #[] } }) PySem.F.called_list (PySem.F.typeCall_list_1 _) PySem.F.entry_list_init (code_list_new _ ⟨rfl, rfl⟩) fun obj s₁ h₁ => ?_
  obtain ⟨rfl, rfl⟩ := h₁
  have hS : (s.heap.push { cls := .type "list", data := .seq #[] }).get? s.heap.objs.size = some { cls := .type "list", data := .seq #[] } := Heap.get?_push_size _ rfl
  have fr : H s.heap.objs.size = none := I.hok.fresh (Nat.le_refl _)
  have I1 := I.lnew (its := []) (t' := s.toks) (ys := []) .nil (Nat.zero_le _)
  refine ⟨⟨_, hS, rfl⟩, PySem.F.args_list_init_2 _ _, ?_⟩
  show wpAny _ _ (do let old ← Builtin.List.listItems (.ref s.heap.objs.size); Builtin.List.listUpdate (.ref s.heap.objs.size) (fun _ => #[]); letGo old.toList.reverse; Builtin.List.listExtendWith (.ref s.heap.objs.size) (.ref a) .none) _ _ _
  refine wpAny_bind ?_
  unfold Builtin.List.listItems
  refine wpAny_bind (wpAny_seqItems hS rfl (wpAny_pure ?_))
  show wpAny _ _ (updateSeq s.heap.objs.size (fun _ => #[]) >>= fun _ => letGo (#[] : Array Value).toList.reverse >>= fun _ => Builtin.List.listExtendWith (.ref s.heap.objs.size) (.ref a) .none) _ _ _
  refine wpAny_bind (wpAny_updateSeq hS rfl ?_)
  have I2 := I1.lset (f := fun _ => #[]) (its := []) (its' := []) (ys := []) (t' := s.toks) upd_same hS rfl .nil (Nat.zero_le _)
  rw [upd_upd] at I2
  refine wpAny_bind (wpAny_letGo ?_)
  obtain ⟨g1, g2⟩ := fresh_g W fr
  exact own_ext (A1 := X.A.in1) (Rs := wants (fun r s₂ => r = .none ∧ EP X pins σ Q (.ref s.heap.objs.size) s₂) X.xe) (i := i) (n := n) ⟨hr, rfl⟩ O I2 (W.newH fr) r1 hm upd_same g2 g1
    fun s' G' H' as' ys J c' W' rm => ⟨rfl, .ref s.heap.objs.size, _, J, rfl, by
      have c0 := (Rch.newH (G := G) (as := as) (o := .lst []) fr).trans c'
      obtain ⟨z1, z2⟩ : G' s.heap.objs.size = none ∧ s.heap.objs.size ∉ as' := ⟨c'.nw _ (.of upd_same) g1, fun z => (c'.fs _ z).elim g2 fun k => k (.of upd_same)⟩
      refine P _ G' _ _ (c0.adopt fr) (W'.adopt (c := .lst m) z1 z2 (.of (c'.fr _ _ g2 upd_same (by intro _ z; cases z))) ⟨ys, rfl, rm.up (prefix_snoc _ _) (Same.refl _)⟩) ?_
      simp only [Rep]
      exact ⟨_, by rw [← W'.len]; simp, rfl⟩⟩
/-- *x -/
theorem star_own {E' : Value → Shared → Prop} {pins : List (Addr × Obj)} {σ : L2.St} {H G : Hp} {as : List Addr} {ws : List Ce} {d : D} {m : List D} {a : Addr} {s : Shared} {Q : List Value → Shared → Prop} (O : Itr1 X n E c f mLen) (hr : Room (n + 1) X.A.in1) (I : Inv X pins σ H s) (W : Wd X.K G H as ws)
    (r : Rep X.K as G d (.ref a)) (hm : itemsO c f i mLen d ws = some m)
    (k : ∀ us xs s' G' H' as', Inv X pins σ H' s' → Rch G H as G' H' as' → Wd X.K G' H' as' ws → Reps X.K as' G' m xs → Vals xs us → Q us s') : PySem.W.StarOf (model X.prog X.w) X.A E' (.ref a) Q s := by
  obtain ⟨ks, l, nn, h1, h2, h3, h4, h5, h6⟩ := itemsO_some hm
  obtain ⟨a', dx, vs, e1, e2, e3, e4⟩ := ins_rep W h1 r
  cases e1
  obtain ⟨mA, J, _⟩ := ins_get I.hok e2
  obtain ⟨od, J, _⟩ := J.look
  obtain ⟨fi, fd, ps, FI, hs, hf, hb⟩ := O.it
  have fr : H s.heap.objs.size = none := I.hok.fresh (Nat.le_refl _)
  obtain ⟨g1, g2⟩ := fresh_g W fr
  unfold PySem.W.StarOf notIterableAtAll
  refine wpAny_bind (wpAny_bind (J.type.here ((PySem.W.looks_findIn I.kIn hs).here (wpAny_pure ⟨rfl, ?_⟩))))
  unfold collect
  refine wpAny_bind (wpAny_runValue (codeAny_builtin PySem.F.entry_proto_collect ?_))
  rw [Around.under_plainId PySem.F.plain_proto_collect _]
  show wpAny _ X.A.in1 (newList [] >>= fun l => again (.builtin "list.__iadd__" ⟨[l, .ref a], []⟩)) _ _ s
  refine wpAny_bind (wpAny_newObj_type (wpAny_pure ⟨plainId_quiet PySem.F.plain_list_iadd _, codeAny_builtin PySem.F.entry_list_iadd ?_⟩))
  rw [Around.under_plainId PySem.F.plain_list_iadd _]
  have I1 := I.lnew (its := []) (t' := s.toks) (ys := []) .nil (Nat.zero_le _)
  show wpAny _ X.A.in1 (Builtin.List.listExtendWith (.ref s.heap.objs.size) (.ref a) (.ref s.heap.objs.size)) _ _ _
  refine own_ext (A1 := X.A) (i := i) (n := n) (Rs := wants (fun v s' => wpAny (model X.prog X.w) X.A (match v with
    | .ref b => do match (← load b).data with
      | .seq zs _ => pure zs.toList
      | _ => unsupported "internal:collect"
    | _ => unsupported "internal:collect") Q E' s') E') ⟨hr, rfl⟩ O I1 (W.newH fr) r hm upd_same g2 g1 fun s' G' H' as' ys J' c' W' rm => ?_
  have c0 := (Rch.newH (G := G) (as := as) (o := .lst []) fr).trans c'
  obtain ⟨z1, z2⟩ : G' s.heap.objs.size = none ∧ s.heap.objs.size ∉ as' := ⟨c'.nw _ (.of upd_same) g1, fun z => (c'.fs _ z).elim g2 fun k => k (.of upd_same)⟩
  obtain ⟨z, its, kk, rr, hl, e⟩ := J'.lstM upd_same
  show wpAny _ X.A (load s.heap.objs.size >>= _) _ _ s'
  exact wpAny_bind (wpAny_load e (wpAny_pure (k its ys s' G' _ as' J' (c0.side fr) (W'.side z1 z2 (.of (c'.fr _ _ g2 upd_same (by intro _ z; cases z)))) rm rr)))
end
def sListI (c f : Str) (i : Nat) (mLen : Mf) (a : Sa) : Se := fun ρ ws => (a ρ ws).bind fun ds ws1 => match ds with
  | [d] => (match itemsO c f i mLen d ws1 with
    | some m => .ok (.cell ws1.length) (ws1 ++ [.lst m])
    | none => .bad)
  | _ => .bad
def sStarI (c f : Str) (i : Nat) (mLen : Mf) (a : Se) (r : Sa) : Sa := fun ρ ws => (a ρ ws).bind fun x ws1 => match itemsO c f i mLen x ws1 with
  | some l => (r ρ ws1).bind fun xs ws2 => .ok (l ++ xs) ws2
  | none => .bad
def tStarI (K : PySem.W.Frag) (c f : Str) (i : Nat) (mLen : Mf) (te : TE) (t : TA) : TA := fun σ H Q => te σ H fun x H1 => ∃ a G as ws d m, x = V.ref a ∧ Wd K G H1 as ws ∧ Rep K as G d (.ref a) ∧ itemsO c f i mLen d ws = some m ∧
  ∀ xs G' H' as', Rch G H1 as G' H' as' → Wd K G' H' as' ws → Reps K as' G' m xs → t σ H' fun ys H2 => Q (xs ++ ys) H2
section
variable {K : PySem.W.Frag} {X : Cx} {E : XK} {e : Expr} {es : List Expr} {te : TE} {ta : TA} {se : Se} {sa : Sa} {p pos : Pos} {n : Nat} {c f : Str} {mLen : Mf}
theorem items_rep {G H : Hp} {as : List Addr} {ws : List Ce} {d : D} {v : V} {m : List D} {i : Nat} (W : Wd K G H as ws) (r : Rep K as G d v) (h : itemsO c f i mLen d ws = some m) : ∃ a, v = .ref a := by
  obtain ⟨ks, l, nn, h1, _⟩ := itemsO_some h
  obtain ⟨a, dx, vs, e1, _⟩ := ins_rep W h1 r
  exact ⟨a, e1⟩
theorem ae_listI (i : Nat) (O : Itr1 X n E c f mLen) (hr : Room (n + 1) X.A.in1.in1) (hm : X.mg "list" = none) (ha : AA K X E (e :: es) ta sa) (hg : Gl X "list" := by rfl)
    (he : starEach (e :: es) X.env = (false, eval e X.env) :: starEach es X.env := by rfl) (hpl : (backTo pos (starEach es X.env)).any (·.1) = false := by rfl) : AE K X E (.Call (.Name "list" p) (e :: es) [] pos) (tCB (rListI K E c f i mLen) ta) (sListI c f i mLen sa) := by
  have e0 := ha.hK
  subst e0
  refine ⟨rfl, pe_callTy (call_listI O hr) hg hm rfl ha.pe (by decide) (by decide) he hpl, fun ρ ws G H as σ Q W S P => ha.ev ρ ws G H as σ _ W S (Post.bind P fun ds ws1 vs G1 H1 as1 r1 W1 rs P1 => ?_)⟩
  split at P1
  · rename_i d
    split at P1
    · rename_i m hm'
      obtain ⟨v, us, e1, e2, e3⟩ := rs.uncons
      rw [e3.unnil] at e1
      subst e1
      obtain ⟨a, ea⟩ := items_rep W1 e2 hm'
      subst ea
      exact ⟨a, G1, as1, ws1, d, m, rfl, W1, e2, hm', P1⟩
    · exact False.elim P1
  · exact False.elim P1
theorem aa_starI (i : Nat) (O : Itr1 X n E c f mLen) (hrm : Room (n + 1) X.A.in1) (he : AE K X E e te se) (hr : AA K X E es ta sa) (hs : starEach (.Starred e p :: es) X.env = (true, eval e X.env) :: starEach es X.env := by rfl) : AA K X E (.Starred e p :: es) (tStarI K c f i mLen te ta) (sStarI c f i mLen se sa) := by
  have e0 := he.hK
  subst e0
  refine ⟨rfl, ⟨fun pos pins s σ H Q I h => PySem.W.items_star (thn (he.pe.run pins s σ H _ I h) fun v s1 ⟨y, H1, I1, ry, a, G, as, ws, d, m, ey, W, rd, hm, q⟩ => ?_) hs⟩, fun ρ ws G H as σ Q W S P => he.ev ρ ws G H as σ _ W S (Post.bind P fun d ws1 v G1 H1 as1 r1 W1 rx P1 => ?_)⟩
  · subst ey
    obtain rfl : v = Value.ref a := ry
    refine star_own O hrm I1 W rd hm fun us xs s2 G' H' as' I2 c' W' rm rv => ?_
    exact thn (hr.pe.run pos pins s2 σ H' _ I2 (q xs G' H' as' c' W' rm)) fun ws' s3 ⟨vs, H3, I3, r3, q3⟩ => ⟨xs ++ vs, H3, I3, rv.append r3, q3⟩
  · split at P1
    · rename_i l hl
      obtain ⟨a, ea⟩ := items_rep W1 rx hl
      subst ea
      refine ⟨a, G1, as1, ws1, d, l, rfl, W1, rx, hl, fun xs G' H' as' c' W' rm => ?_⟩
      refine hr.ev ρ ws1 G' H' as' σ _ W' ((S.up r1.pre r1.up).up c'.pre c'.up) (Post.bind (Post.from P1 c') fun ys ws2 us G2 H2 as2 r2 W2 rs P2 => ?_)
      exact Post.done P2 W2 ((rm.up r2.pre r2.up).app rs)
    · exact False.elim P1
end
end RL
set_option Elab.async false
set_option linter.all false
set_option maxRecDepth 100000
/-! RL15: is None, in a tuple of data, fixed lists, comprehensions that make a list to be written, xs[:] = ys, bool(x) by an own __len__. -/
namespace RL
open PySem PySem.Spec PyProof.Rows L2
section
variable {K : PySem.W.Frag}
def isNonD : D → Bool
  | .non => true
  | _ => false
/-- x is None, x told by its form -/
def fIsN (neg : Bool) : List Ce → D → D → Option D := fun ws x y => match y with
  | .non => some (.bl (if neg then !isNonD x else isNonD x))
  | _ => none
theorem isNonD_ok {as : List Addr} {G : Hp} {d : D} {v : V} (r : Rep K as G d v) : decide (v = .non) = isNonD d := by
  cases d with
  | non =>
    simp only [Rep] at r
    subst r
    rfl
  | bl b =>
    simp only [Rep] at r
    subst r
    rfl
  | int b =>
    simp only [Rep] at r
    subst r
    rfl
  | str b =>
    simp only [Rep] at r
    subst r
    rfl
  | tup l =>
    simp only [Rep] at r
    obtain ⟨a, _, e, _⟩ := r
    subst e
    rfl
  | lst l =>
    simp only [Rep] at r
    obtain ⟨a, _, e, _⟩ := r
    subst e
    rfl
  | ins _ _ l =>
    simp only [Rep] at r
    obtain ⟨a, _, _, e, _⟩ := r
    subst e
    rfl
  | cell n =>
    simp only [Rep] at r
    obtain ⟨a, _, e⟩ := r
    subst e
    rfl
  | cls c =>
    simp only [Rep] at r
    subst r
    rfl
  | fz l =>
    simp only [Rep] at r
    obtain ⟨a, _, e, _⟩ := r
    subst e
    rfl
  | exc _ _ l =>
    simp only [Rep] at r
    obtain ⟨a, _, _, e, _⟩ := r
    subst e
    rfl
  | dct _ l =>
    simp only [Rep] at r
    obtain ⟨a, _, e, _⟩ := r
    subst e
    rfl
  | dcT _ l =>
    simp only [Rep] at r
    obtain ⟨a, _, e, _⟩ := r
    subst e
    rfl
theorem od_isN : OpD K (fun x y H Q => y = .non ∧ Q (.bl (decide (x = .non))) H) (fIsN false) := OpD.pure fun ws G H as x y d e z Q W rx ry ef k => by
  unfold fIsN at ef
  split at ef
  · cases ef
    simp only [Rep] at ry
    exact ⟨ry, by rw [isNonD_ok rx]; exact k _ (by simp [Rep])⟩
  · cases ef
theorem od_notN : OpD K (fun x y H Q => y = .non ∧ Q (.bl (!decide (x = .non))) H) (fIsN true) := OpD.pure fun ws G H as x y d e z Q W rx ry ef k => by
  unfold fIsN at ef
  split at ef
  · cases ef
    simp only [Rep] at ry
    exact ⟨ry, by rw [isNonD_ok rx]; exact k _ (by simp [Rep])⟩
  · cases ef
/-! x in a tuple (data) -/
def rInT (K : PySem.W.Frag) (neg : Bool) : R2 := fun x y H Q => ∃ d ds, Dp K H x d ∧ Dp K H y (.tuple ds) ∧ SeqAt.shaped d = true ∧ SeqAt.shaped (.tuple ds) = true ∧ Q (.bl (if neg then !(ds.any fun z => PyData.eqv z d) else ds.any fun z => PyData.eqv z d)) H
theorem op_inT {X : Cx} {neg : Bool} (hu : X.A.units + 65 < cLine) : OpR X (compareOp (if neg then .NotIn else .In)) (rInT X.K neg) := by
  intro pins s σ H x y v u Q I rx ry h
  obtain ⟨d, ds, hd, he, sd, se, q⟩ := h
  obtain ⟨as, t1⟩ := Dp.reads I d x v hd rx
  obtain ⟨bs, t2⟩ := Dp.reads I (.tuple ds) y u he ry
  have se' : PyData.canLayAll0 ds = true := by simpa [PyData.canLay0] using SeqAt.canLay_of_shaped se
  cases neg with
  | false => exact SeqAt.in_tuple_reads t2 t1 se' (SeqAt.canLay_of_shaped sd) (room_in_shaped sd hu) ⟨.bl _, H, I, rfl, q⟩
  | true => exact SeqAt.notIn_tuple_reads t2 t1 se' (SeqAt.canLay_of_shaped sd) (room_in_shaped sd hu) ⟨.bl _, H, I, rfl, q⟩
def fInT (neg : Bool) : List Ce → D → D → Option D := fun ws x y => (toPy ws x).bind fun p => (toPy ws y).bind fun q => match q with
  | .tuple ds => if (SeqAt.shaped p && SeqAt.shaped (.tuple ds)) = true then some (.bl (if neg then !(ds.any fun z => PyData.eqv z p) else ds.any fun z => PyData.eqv z p)) else none
  | _ => none
theorem od_inT {neg : Bool} : OpD K (rInT K neg) (fInT neg) := OpD.pure fun ws G H as x y d e z Q W rx ry ef k => by
  simp only [fInT, Option.bind_eq_some_iff] at ef
  obtain ⟨p, h1, q, h2, h3⟩ := ef
  split at h3
  · split at h3
    · rename_i h4
      cases h3
      obtain ⟨h5, h6⟩ := Bool.and_eq_true_iff.mp h4
      exact ⟨p, _, toPy_ok W h1 rx, toPy_ok W h2 ry, h5, h6, k _ (by simp [Rep])⟩
    · cases h3
  · cases h3
/-- list(x): a list that is never written -/
def gList : List Ce → D → Option D := fun ws x => (seqOf ws x).map .lst
theorem cd_listF : CaD K (fun xs H Q => ∃ p ys, xs = [.ref p] ∧ (SqL K H p ys ∨ SqT K H p ys) ∧ ∀ l, H l = none → Q (.ref l) (upd H l (.lst ys))) (fb1 gList) := fun ws G H as xs ds y ws' Q W rs e k => by
  unfold fb1 at e
  split at e
  · rename_i d
    obtain ⟨z, h1, h2⟩ := Option.map_eq_some_iff.mp e
    cases h2
    obtain ⟨l, h3, h4⟩ := Option.map_eq_some_iff.mp h1
    subst h4
    obtain ⟨v, vs, e1, e2, e3⟩ := rs.uncons
    rw [e3.unnil] at e1
    subst e1
    obtain ⟨a, us, f1, f2, f3⟩ := seq_rep W h3 e2
    subst f1
    refine ⟨a, us, rfl, f2, fun p hp => k _ _ _ as (Rch.new W.le hp) (W.new hp) ?_⟩
    simp only [Rep]
    exact ⟨p, us, rfl, upd_same, f3.up (List.prefix_refl _) (Rch.new (as := as) W.le hp).up⟩
  · cases e
end
/-! ### xs[:] = ys -/
section
variable {prog : Program} {w : World} {A : Around} {E : Value → Shared → Prop} {s : Shared}
theorem setItem_all {l b sl : Addr} {old new : Array Value} {n n2 : Nat} {Q : Unit → Shared → Prop} (e : s.heap.get? l = some { cls := .type "list", data := .seq old n }) (e2 : s.heap.get? b = some { cls := .type "list", data := .seq new n2 }) (hne : l ≠ b)
    (hs : s.heap.IsSliceOf sl .none .none .none) (hsz : old.size + new.size ≤ sizeLine) (h : Q () { s with heap := s.heap.update l (Obj.mapSeq fun xs => xs.extract 0 0 ++ new ++ xs.extract old.size xs.size) }) : wpAny (model prog w) A (setItem (.ref l) (.ref sl) (.ref b)) Q E s := by
  have hl : s.heap.IsList l old := PySem.IsL.isList e
  have hb : s.heap.IsList b new := PySem.IsL.isList e2
  obtain ⟨os, hos, hcs, hds⟩ := id hs
  have hTs : s.TypeIs (.ref sl) "slice" := ⟨os, hos, hcs⟩
  have same : Builtin.List.listSameRef (.ref l) (.ref b) = false := by
    unfold Builtin.List.listSameRef
    exact beq_eq_false_iff_ne.mpr hne
  have hz' : ((fun xs : Array Value => xs.extract 0 0 ++ new ++ xs.extract old.size xs.size) old).size ≤ sizeLine + 1 := by
    simp only [Array.size_append, Array.size_extract]
    omega
  have hb2 : sliceBounds none none none old.size = (0, (old.size : Int), 1) := rfl
  unfold setItem
  try with_reducible refine wpAny_holding ?_
  first | refine wpAny_bind (wpAny_pure ?_) | skip
  refine wpAny_bind (wpAny_sequenceKey hl.typeIs (by decide) (wpAny_bind (wpAny_callSpecial?_slot (name := Str.ofString "__setitem__") hl.typeIs slot_list_setitem (wpAny_call_entry slot_list_setitem hl.typeIs entry_list_setitem ?_ (args_list_setitem _ _ _)))))
  show wpAny _ _ (Builtin.List.listSubscript? (.ref sl) >>= _) _ _ s
  refine wpAny_bind ?_
  unfold Builtin.List.listSubscript?
  refine wpAny_bind (wpAny_specialOf hTs slice_no_index ?_)
  simp only [Option.isNone_none, if_true]
  refine wpAny_pure ?_
  show wpAny _ _ (typeOf (.ref sl) >>= _) _ _ s
  refine wpAny_bind (wpAny_typeOf hTs (PySem.W.KFB.if_not (by decide) ?_))
  rw [listSliceParts_eq]
  refine wpAny_bind (wpAny_bind (wpAny_field hos hds (x := .none) rfl (wpAny_bind (wpAny_listPart .none (PySem.W.KFB.if_not rfl ?_)))))
  refine wpAny_bind (wpAny_field hos hds (x := .none) rfl (wpAny_bind (wpAny_listPart .none (wpAny_bind (wpAny_field hos hds (x := .none) rfl (wpAny_bind (wpAny_listPart .none (wpAny_pure ?_))))))))
  first
    | simp only [same, Bool.false_eq_true, if_false]
    | refine PySem.W.KFB.if_not same ?_
  refine wpAny_bind (m := Builtin.List.listAllItems (.ref b) "must assign iterable to extended slice") ?_
  unfold Builtin.List.listAllItems
  refine wpAny_bind (wpAny_typeOf hb.typeIs (PySem.W.KFB.if_so (by decide) ?_))
  unfold Builtin.List.listItems
  refine wpAny_bind (wpAny_seqItems e2 rfl (wpAny_pure (wpAny_bind (wpAny_bind (wpAny_seqItems e rfl (wpAny_pure ?_))))))
  refine wpAny_bind (wpAny_of_eq ((sliceIndices_raw none none none old.size (by simp)).trans (congrArg (pure : Int × Int × Int → Sem (Int × Int × Int)) hb2)) ?_)
  show wpAny _ _ (if ((1 : Int) == 1) = true then _ else _) _ _ s
  rw [if_pos (by decide)]
  refine wpAny_bind (wpAny_rule ?_)
  first
    | simp only [L2.notLongL hsz, Bool.false_eq_true, if_false]
    | refine PySem.W.KFB.if_not (L2.notLongL hsz) ?_
  first | refine wpAny_bind (wpAny_pure ?_) | skip
  show wpAny _ _ (updateSeq l (fun xs => xs.extract 0 ((0 : Int)).toNat ++ new ++ xs.extract (max (0 : Int) (old.size : Int)).toNat xs.size) >>= _) _ _ s
  have hmax : (max (0 : Int) (old.size : Int)).toNat = old.size := by omega
  rw [hmax]
  refine wpAny_bind (wpAny_updateSeq (hz := Nat.le_trans (Nat.le_add_right _ _) hsz) (_hz' := hz') e rfl (wpAny_bind (wpAny_letGo ?_)))
  first
    | exact wpAny_bind (wpAny_pure (wpAny_pure ⟨.none, rfl, wpAny_pure h⟩))
    | exact wpAny_pure ⟨.none, rfl, wpAny_pure h⟩
end
end RL
set_option Elab.async false
set_option linter.all false
set_option maxRecDepth 100000
/-! RL16: xs[:] = ys, bool(x) by an own __len__. -/
namespace RL
open PySem PySem.Spec PyProof.Rows L2
variable [kd : KdC]
/-! ### xs[:] = ys -/
theorem splice_all (its its2 : List Value) : its.toArray.extract 0 0 ++ its2.toArray ++ its.toArray.extract its.toArray.size its.toArray.size = its2.toArray := by
  apply Array.toList_inj.mp
  simp
def gAll1 (to : TE) : TG := fun v σ H Q => to σ H fun o H1 => ∃ l b xs ys, o = .ref l ∧ v = .ref b ∧ l ≠ b ∧ H1 l = some (.lst xs) ∧ H1 b = some (.lst ys) ∧ xs.length + ys.length ≤ sizeLine ∧ Q σ (upd H1 l (.lst ys))
theorem pg_all1 {X : Cx} {o : Expr} {to : TE} {pos p2 : Pos} (ho : PE X o to) (ha : ∀ v, assign (.Subscript o (.Slice none none none p2) pos) X.env v = (do
      let ov ← holding [v] (eval o X.env)
      let iv ← holding [v, ov] (eval (.Slice none none none p2) X.env)
      standAt pos
      holding [v, ov, iv] (setItem ov iv v)
      release [iv, v, ov] []) := by intro _; rfl) : PG X (.Subscript o (.Slice none none none p2) pos) (gAll1 to) := by
  refine ⟨fun pins s σ H v u Q I r h => ?_⟩
  rw [ha]
  refine wpAny_bind (wpAny_holding (thn (ho.run pins s σ H _ I h) fun ov s1 ⟨x, H1, I1, r1, l, b, xs, ys, ex, ev, hne, hl, hb, hz, q⟩ => ?_))
  subst ex ev
  obtain rfl : ov = Value.ref l := r1
  obtain rfl : u = Value.ref b := r
  refine wpAny_bind (wpAny_holding (wpAny_Slice (evalPart_none_step (evalPart_none_step (evalPart_none_step ?_)))))
  have I2 := I1.kept (t' := s1.toks) (h' := s1.heap.push { cls := .type "slice", data := .fields #[.none, .none, .none] }) fun b ob q => Heap.get?_push_of_some _ q
  obtain ⟨_, its, k1, t1, _, e1⟩ := I2.lstM hl
  obtain ⟨_, its2, k2, t2, _, e2⟩ := I2.lstM hb
  refine wpAny_bind (wpAny_standAt (wpAny_bind (wpAny_holding (setItem_all e1 e2 hne (Heap.IsSliceOf.new ..) (by rw [List.size_toArray, List.size_toArray, ← t1.length, ← t2.length]; exact hz) (wpAny_release ?_)))))
  have J := I2.lset (f := fun zs => zs.extract 0 0 ++ its2.toArray ++ zs.extract its.toArray.size zs.size) (its' := its2) (ys := ys) (t' := s1.toks) hl e1 (splice_all its its2) t2 (by omega)
  exact ⟨σ, _, J, q⟩
def tgAll (o : Se) : Tg := fun d ρ ws => (o ρ ws).bind fun x ws1 => match x, d with
  | .cell n, .lst m => (match ws1[n]? with
    | some (.lst l) => if l.length + m.length ≤ 100000 then .ok ρ (ws1.set n (.lst m)) else .bad
    | _ => .bad)
  | _, _ => .bad
theorem ag_all1 {K : PySem.W.Frag} {X : Cx} {E : XK} {o : Expr} {to : TE} {so : Se} {pos p2 : Pos} (ho : AE K X E o to so) (ha : ∀ v, assign (.Subscript o (.Slice none none none p2) pos) X.env v = (do
      let ov ← holding [v] (eval o X.env)
      let iv ← holding [v, ov] (eval (.Slice none none none p2) X.env)
      standAt pos
      holding [v, ov, iv] (setItem ov iv v)
      release [iv, v, ov] []) := by intro _; rfl) : AG K X E (.Subscript o (.Slice none none none p2) pos) (gAll1 to) [] (tgAll so) := by
  refine ⟨ho.hK, pg_all1 ho.pe ha, fun d v ρ ws G H as σ Q W S r P => ho.ev ρ ws G H as σ _ W S (Post.bind P fun x ws1 u G1 H1 as1 r1 W1 rx P1 => ?_)⟩
  split at P1
  · rename_i n m
    split at P1
    · rename_i l q
      split at P1
      · rename_i hl
        obtain ⟨a, vs, e1, e2, e3, e4⟩ := cell_lst W1 q rx
        have rd := r.up r1.pre r1.up
        simp only [Rep] at rd
        obtain ⟨b, us, f1, f2, f3⟩ := rd
        have ne : a ≠ b := fun z => by
          rw [← z, (W1.out a (List.mem_of_getElem? e2)).1] at f2
          cases f2
        refine ⟨a, b, vs, us, e1, f1, ne, e3, W1.le _ _ f2, small5 (by rw [← e4.len, ← f3.len]; exact hl), ?_⟩
        exact P1 σ G1 _ as1 (Rch.put (List.mem_of_getElem? e2)) (W1.put e2 q (fun z => by cases z) ⟨us, rfl, f3⟩) ⟨S.up r1.pre r1.up, Chg.refl⟩
      · exact False.elim P1
    · exact False.elim P1
  · exact False.elim P1
/-! ### bool(x) -/
section
variable {X : Cx} {E : XK} {c : Str} {m : Mf} {k : Nat}
def rOwnBool (K : PySem.W.Frag) (E : XK) (c : Str) (m : Mf) : List V → Hp → VK → Prop := fun xs H Q => ∃ x G as ws d, xs = [x] ∧ Wd K G H as ws ∧ Rep K as G d x ∧ isIns c ws d = true ∧ Post K E (Rep K) G H as ((m [d] ws).bind fun z ws1 => match z with
  | .int i => if 0 ≤ i ∧ i < 1000000 then .ok (.bl (i != 0)) ws1 else .bad
  | _ => .bad) Q
theorem call_ownBool (dn : Dun X k E c "__len__" m) (hb0 : PySem.W.findIn X.K (.ref (He.ga X.K c)) "__bool__" = some none) (hr : Room k X.A.in1.in1.in1) : CallR X (.type "bool") (rOwnBool X.K E c m) := by
  intro pins s σ H xs us Q I rv h
  obtain ⟨x, G, as, ws, d, ex, W, r1, hi, P⟩ := h
  subst ex
  obtain ⟨u, rfl, rx⟩ := rv.one
  obtain ⟨f, fd, ps, F, hs, hf, _, hb⟩ := dn.ok
  obtain ⟨a, e1, e2, ox, od, J⟩ := isIns_two I rx W r1 hi
  subst e1 e2
  have h : spM X.K m [.ref a] H (fun z H' => ∃ i : Int, z = .int i ∧ (0 ≤ i ∧ i < 1000000) ∧ Q (.bl (i != 0)) H') E := by
    refine ⟨G, as, ws, [d], W, Reps.one r1, Post.bind P fun z ws1 vz G1 H1 as1 q1 W1 rz P1 => ?_⟩
    cases z with
    | int i =>
      simp only at P1
      split at P1
      · rename_i hi
        simp only [Rep] at rz
        exact ⟨i, rz, hi, Post.done P1 W1 (by simp [Rep])⟩
      · exact False.elim P1
    | _ => exact False.elim P1
  have z := own_run F hb dn.px (A := X.A.in1.in1.in1) (us := [.ref a]) ⟨hr, rfl⟩ I (.cons (show RelV (V.ref a) (Value.ref a) from rfl) .nil) h
  have key : wpAny (model X.prog X.w) X.A.in1.in1 (runValue (.builtin "len" ⟨[.ref a], []⟩)) (fun r s' => ∃ (i : Int) (t : Tok) (H' : Hp), r = .int i t ∧ Inv X pins σ H' s' ∧ Q (.bl (i != 0)) H') X.xe s := by
    refine wpAny_runValue (codeAny_builtin entry_len ?_)
    rw [Around.under_plainId plain_len _]
    unfold Builtin.«len»
    refine wpAny_bind (m := oneArg "len" _) (wpAny_pure (wpAny_bind (m := callSpecial? (.ref a) (Str.ofString "__len__")) (PySem.W.special_fn I.kIn J hs (beq_iff_eq.mp hf) (wpAny_mono z (fun r s' hr => ?_) fun _ _ y => y))))
    obtain ⟨zv, H', I', rz, i, ez, hi, q⟩ := hr
    subst ez
    obtain ⟨t, rfl⟩ := rz
    refine wpAny_bind (wpAny_holding (wpAny_pure (wpAny_bind (wpAny_letGo ?_))))
    have q1 : ¬ i < 0 := by omega
    have q2 : ¬ i ≥ 2 ^ 63 := by omega
    simp only [q1, q2, if_false]
    exact wpAny_bind (wpAny_mkInt (wpAny_pure ⟨i, _, H', rfl, I'.tok _, q⟩))
  have tru : wpAny (model X.prog X.w) X.A.in1.in1 (truthy (.ref a)) (fun b s' => ∃ H', Inv X pins σ H' s' ∧ Q (.bl b) H') X.xe s := by
    unfold truthy
    refine wpAny_bind (m := callSpecial? (.ref a) (Str.ofString "__bool__")) (wpAny_bind (wpAny_bind (J.type.here ((PySem.W.looks_findIn I.kIn hb0).here (wpAny_pure ?_)))))
    refine wpAny_bind (wpAny_bind (J.type.here ((PySem.W.looks_findIn I.kIn hs).here (PySem.W.KFB.if_not rfl (wpAny_bind (wpAny_mono key (fun r s' hr => ?_) fun _ _ y => y))))))
    obtain ⟨i, t, H', er, I', q⟩ := hr
    subst er
    exact wpAny_pure ⟨H', I', q⟩
  refine callType_codes (T := "bool") (Bi := Builtin.«object.__init__») (Q₁ := fun r s₁ => ∃ b H', r = .bool b ∧ Inv X pins σ H' s₁ ∧ Q (.bl b) H') PySem.F.called_bool (PySem.F.typeCall_bool_1 _) PySem.F.entry_object_init ?_ ?_
  · refine codeAny_of_tree ?_
    show wpAny _ X.A.in1.in1 (do checkBuiltinCall "bool.__new__" ⟨[.type "bool", .ref a], []⟩; again (.builtin "bool.__new__" ⟨[.type "bool", .ref a], []⟩)) _ _ s
    refine wpAny_bind (wpAny_of_eq (PySem.F.newCall_bool_1 _) (wpAny_pure ⟨plainId_quiet (by decide +kernel) _, codeAny_builtin PySem.F.entry_bool_new ?_⟩))
    rw [Around.under_plainId (by decide +kernel) _]
    unfold Builtin.«bool.__new__»
    have f1 := PySem.F.conv_sub_bool
    repeat (first | with_reducible refine wpAny_bind (wpAny_mono tru (fun b s' hq => ?_) fun _ _ y => y) | wp_step)
    obtain ⟨H', I', q⟩ := hq
    exact ⟨b, H', rfl, I', q⟩
  · rintro obj s₁ ⟨b, H', rfl, I', q⟩
    exact ⟨rfl, PySem.F.args_object_init_2 _ _, object_init_meets PySem.F.called_bool.init.lookup PySem.F.called_bool.made (by decide) _ _ X.A.in1 _ s₁ ⟨rfl, rfl, .bl b, H', I', rfl, q⟩⟩
def sBoolO (c : Str) (m : Mf) (a : Sa) : Se := fun ρ ws => (a ρ ws).bind fun ds ws1 => match ds with
  | [d] => if isIns c ws1 d = true then (m [d] ws1).bind fun z ws2 => (match z with
      | .int i => if 0 ≤ i ∧ i < 1000000 then .ok (.bl (i != 0)) ws2 else .bad
      | _ => .bad)
    else .bad
  | _ => .bad
theorem ae_boolO {K : PySem.W.Frag} {e : Expr} {es : List Expr} {ta : TA} {sa : Sa} {p pos : Pos} (dn : Dun X k E c "__len__" m) (hb0 : PySem.W.findIn X.K (.ref (He.ga X.K c)) "__bool__" = some none) (hr : Room k X.A.in1.in1.in1) (hm : X.mg "bool" = none) (ha : AA K X E (e :: es) ta sa) (hg : Gl X "bool" := by rfl)
    (he : starEach (e :: es) X.env = (false, eval e X.env) :: starEach es X.env := by rfl) (hpl : (backTo pos (starEach es X.env)).any (·.1) = false := by rfl) : AE K X E (.Call (.Name "bool" p) (e :: es) [] pos) (tCB (rOwnBool K E c m) ta) (sBoolO c m sa) := by
  have e0 := ha.hK
  subst e0
  refine ⟨rfl, pe_callTy (call_ownBool dn hb0 hr) hg hm rfl ha.pe (by decide) (by decide) he hpl, fun ρ ws G H as σ Q W S P => ha.ev ρ ws G H as σ _ W S (Post.bind P fun ds ws1 vs G1 H1 as1 r1 W1 rs P1 => ?_)⟩
  split at P1
  · split at P1
    · rename_i d hi
      obtain ⟨v, us, e1, e2, e3⟩ := rs.uncons
      rw [e3.unnil] at e1
      subst e1
      exact ⟨v, G1, as1, ws1, d, rfl, W1, e2, hi, P1⟩
    · exact False.elim P1
  · exact False.elim P1
end
/-! ### repr of data, no other repr under way -/
def gRepr : List Ce → D → Option D := fun ws x => match x with
  | .lst _ => (toPy ws x).bind fun p => if p.showable = true ∧ p.hasDict = false ∧ p.depth ≤ 60 ∧ p.shown.length ≤ 100000 then some (.str p.shown) else none
  | _ => none
def rReprL (K : PySem.W.Frag) : List V → Hp → VK → Prop := fun xs H Q => ∃ a p, xs = [V.ref a] ∧ Dp K H (V.ref a) p ∧ p.showable = true ∧ p.hasDict = false ∧ p.depth ≤ 60 ∧ p.shown.length ≤ 100000 ∧ Q (.str p.shown) H
theorem call_reprL {X : Cx} (hg : X.A.guards = some []) (hu : X.A.units + 65 < cLine) : CallR X (.builtin "repr") (rReprL X.K) := by
  intro pins s σ H xs us Q I rv h
  obtain ⟨a, p, ex, hd, h1, h2, h3, h4, q⟩ := h
  subst ex
  obtain ⟨u, rfl, ru⟩ := rv.one
  obtain rfl : u = Value.ref a := ru
  obtain ⟨as, t1⟩ := Dp.reads I p (V.ref a) (Value.ref a) hd rfl
  exact repr_of_reads' t1 h1 (PyData.noDict_hsm h2) hg (by omega) (fun _ _ e => e) (fun h' u tk hk => ⟨.str p.shown, H, I.kept hk, ⟨_, rfl⟩, q⟩) (small5 h4)
theorem cd_repr {K : PySem.W.Frag} : CaD K (rReprL K) (fb1 gRepr) := .one fun ws G H as x d z Q W r e k => by
  unfold gRepr at e
  split at e
  · rename_i l
    obtain ⟨p, h1, h2⟩ := Option.bind_eq_some_iff.mp e
    split at h2
    · rename_i hh
      cases h2
      have r' := r
      simp only [Rep] at r'
      obtain ⟨a, vs, e1, _⟩ := r'
      subst e1
      exact ⟨a, p, rfl, toPy_ok W h1 r, hh.1, hh.2.1, hh.2.2.1, hh.2.2.2, k _ (by simp [Rep])⟩
    · cases h2
  · cases e
/-! ### a def that is run while no repr is under way -/
def FnG (P : Program) (w : World) (K : PySem.W.Frag) (mg : Str → Option Value) (base : Heap) (k : Nat) (f : Addr) (m : Mf) : Prop := ∀ (A : Around) (outer : List Env) (s : Shared) (H : Hp) (us : List Value) (vs : List V) (Q : VK) (E : XK),
  Room k A → A.guards = some [] → Env0 P w K mg base A outer s H → Vals vs us → spM K m vs H Q E → codeAny (model P w) A (.call (.ref f) ⟨us, []⟩) (CR (cxk P w) outer P w H s Q E) s
theorem fng_of {P : Program} {w : World} {K : PySem.W.Frag} {mg : Str → Option Value} {base : Heap} {x qual : Str} {params : Arguments} {body : List Stmt} {scope : Scope} {dvs : List V} {kws : List (Str × V)} {f : Addr} {fd : FuncData} {N ps : List Str} {k : Nat} {g : Ss} {kp : Bool}
    (F : FunD K x qual params body scope dvs kws f fd) (S : FnScope N ps scope) (hbi : Binds K fd ps [])
    (hb : ∀ (cdv : Value) (A : Around) (outer : List Env) (s : Shared) (H : Hp) (E : XK), Ctx P w K mg base N scope k (cxOf (cxk P w) P w K mg base N qual scope f cdv A outer s H E) E → (cxOf (cxk P w) P w K mg base N qual scope f cdv A outer s H E).A.guards = some [] → ∃ ts, ASs K (cxOf (cxk P w) P w K mg base N qual scope f cdv A outer s H E) E body ts g) :
    FnG P w K mg base (k + 1) f (bodyM kp ps.length N g) := by
  obtain ⟨oc, od, dV, kV, doc, pm, an, cdv, ct, osl, rfl, lk, hcd, _, _⟩ := F.ex
  intro A outer s H us vs Q E hr hgd e0 r h
  have KX : K.In s.heap := e0.mod.kin.keeps fun b o e => (e0.bs b o e).1
  obtain ⟨G, as, ws, ds, W, rs, Pt⟩ := h
  unfold bodyM at Pt
  split at Pt
  · rename_i hl
    refine StX.run_bnd lk hcd S hr e0 (G := fun xs H2 => xs = vs ∧ H2 = H) (fun A' Ex Q' hk => ?_) fun s2 H2 xs ⟨ex, eH⟩ hr' => ?_
    · have z := hbi s us KX (by rw [List.append_nil, ← r.length, ← rs.len]; exact hl)
      rw [List.append_nil] at z
      exact z _ _ _ _ (hk s H vs us e0 Un.refl rfl (fun _ _ z => z) r (by rw [← rs.len]; exact hl) ⟨rfl, rfl⟩)
    · subst ex eH
      have tk : Tk (cxOf (cxk P w) P w K mg base N qual scope f cdv A outer s2 H2 E) fun cls d _ H => E cls d H := tk_of
      obtain ⟨ts, hT⟩ := hb cdv A outer s2 H2 E ⟨hr', tk, tk_px tk, PassesOwn.leaving⟩ hgd
      exact ⟨ts, hT.pe, hT.ev _ ws G H2 as _ _ W (start_rep rs) (fin_post W Pt)⟩
  · exact False.elim Pt
structure CalG (X : Cx) (k : Nat) (E : XK) (x : Str) (m : Mf) : Prop where
  ok : ∃ f, FnG X.prog X.w X.K X.mg X.base k f m ∧ X.mg x = some (.ref f) ∧ PySem.W.keepIn X.K (.ref f) = true
  px : Passes (cxk X.prog X.w) X E
theorem ae_callG {K : PySem.W.Frag} {X : Cx} {E : XK} {k : Nat} {x : Str} {m : Mf} {e : Expr} {es : List Expr} {ta : TA} {sa : Sa} {p pos : Pos} (cl : CalG X k E x m) (hr : Room k X.A) (hgd : X.A.guards = some []) (ha : AA K X E (e :: es) ta sa) (hg : Gl X x := by rfl) (hdb : (x == ("__debug__" : Str)) = false := by decide)
    (hs : starEach (e :: es) X.env = (false, eval e X.env) :: starEach es X.env := by rfl) (hpl : (backTo pos (starEach es X.env)).any (·.1) = false := by rfl) : AE K X E (.Call (.Name x p) (e :: es) [] pos) (tCall (spM K m) [] E ta) (sCall m sa) := by
  have e0 := ha.hK
  subst e0
  obtain ⟨f, F, hm, hk⟩ := cl.ok
  refine ⟨rfl, ⟨fun pins s σ H Q I h => wpAny_Call_Name_kw (ld_glob I hg hm ?_ hdb)⟩, evCall ha.ev⟩
  refine PySem.W.callWith_K (h₀ := X.base) I.ok.mod.kin hk (thn (ha.pe.run pos pins s σ H _ I h) fun us s1 ⟨vs, H1, I1, r, q⟩ => ⟨I1.kIn, ?_⟩) hs hpl
  have q : spM X.K m (vs ++ []) H1 Q E := q
  rw [List.append_nil] at q
  refine wpAny_call (codeAny_mono (F X.A X.stack s1 H1 us vs Q E hr hgd I1.env0 r q) fun r' s' hq => ?_)
  cases r' with
  | error er => exact cl.px pins σ H1 s1 er s' I1 hq
  | ok fl =>
    cases fl with
    | ret w => exact I1.after hq
    | next => exact False.elim hq
    | brk => exact False.elim hq
    | cont => exact False.elim hq
end RL
set_option Elab.async false
set_option linter.all false
set_option maxRecDepth 100000
/-! RL17: defs by their addresses, facts about the text's classes as Bools, the head's own hook. -/
namespace RL
open PySem PySem.Spec PyProof.Rows L2
variable [kd : KdC]
theorem un64 {k : Nat} {A : Around} (r : Room k A) : A.units + 64 < cLine := by
  have := r.un
  omega
theorem un65 {k : Nat} {A : Around} (r : Room k A) : A.units + 65 < cLine := by
  have := r.un
  omega
theorem len_one {a : Se} : ∀ (ρ : List (Option D)) (ws : List Ce) (l : List D) (ws' : List Ce), sCons a sNil ρ ws = .ok l ws' → l.length = 1 := by
  intro ρ ws l ws' h
  unfold sCons sNil at h
  cases e : a ρ ws with
  | ok x w1 =>
    rw [e] at h
    cases h
    rfl
  | ex x w1 =>
    rw [e] at h
    cases h
  | bad =>
    rw [e] at h
    cases h
/-- the def at the address f does m -/
structure Ok (P : Program) (w : World) (K : PySem.W.Frag) (mg : Str → Option Value) (base : Heap) (k : Nat) (f : Addr) (m : Mf) : Prop where
  ok : ∃ fd ps, FnOk P w K mg base (cxk P w) k f fd ps (spM K m) ∧ Binds K fd ps []
  kp : PySem.W.keepIn K (.ref f) = true
/-- the method mth of c does m -/
structure Mt (P : Program) (w : World) (K : PySem.W.Frag) (mg : Str → Option Value) (base : Heap) (k : Nat) (c mth : Str) (m : Mf) : Prop where
  ok : Ok P w K mg base k (He.ma K (He.ga K c) mth) m
  cl : Cls K (He.ga K c)
  me : Meth K (He.ga K c) mth (He.ma K (He.ga K c) mth)
  fi : PySem.W.fnIn K (He.ma K (He.ga K c) mth) = true
/-- the getter behind the property f of c -/
def prA (K : PySem.W.Frag) (c f : Str) : Addr := match PySem.W.findIn K (.ref (He.ga K c)) f with
  | some (some (.ref p)) => (match PySem.W.recIn K p "property" with
    | some (.ref g :: _) => g
    | _ => 0)
  | _ => 0
/-- the def behind the classmethod f of c -/
def cmA (K : PySem.W.Frag) (c f : Str) : Addr := match PySem.W.findIn K (.ref (He.ga K c)) f with
  | some (some (.ref p)) => (match PySem.W.recIn K p "classmethod" with
    | some (.ref g :: _) => g
    | _ => 0)
  | _ => 0
section
variable {P : Program} {w : World} {K : PySem.W.Frag} {mg : Str → Option Value} {base : Heap} {k : Nat} {x c c2 mth f : Str} {m : Mf} {X : Cx} {E : XK}
theorem cal_of (o : Ok P w K mg base k (He.ga K x) m) (g : mg x = some (.ref (He.ga K x))) : Cal P w K mg base k x m :=
  let ⟨fd, ps, F, hb⟩ := o.ok
  ⟨_, fd, ps, F, g, o.kp, hb⟩
theorem met_of (o : Mt P w K mg base k c mth m) : Met P w K mg base k c mth m :=
  let ⟨fd, ps, F, hb⟩ := o.ok.ok
  ⟨_, fd, ps, F, o.cl, o.me, hb⟩
theorem dun_of (o : Mt X.prog X.w X.K X.mg X.base k c mth m) (px : Passes (cxk X.prog X.w) X E) : Dun X k E c mth m :=
  let ⟨fd, ps, F, hb⟩ := o.ok.ok
  ⟨⟨_, fd, ps, F, o.me.at_, o.me.fn, o.fi, hb⟩, px⟩
theorem prc (cl : Cls X.K (He.ga X.K c)) (o : Ok X.prog X.w X.K X.mg X.base k (prA X.K c f) m) (h : ∃ p, PropOf X.K (He.ga X.K c) f p (prA X.K c f)) : PrC X k c f m :=
  let ⟨fd, ps, F, hb⟩ := o.ok
  let ⟨p, hp⟩ := h
  ⟨⟨p, _, fd, ps, hp, F, hb⟩, cl⟩
theorem cmc (o : Ok X.prog X.w X.K X.mg X.base k (cmA X.K c mth) m) (h : ∃ mc p, ClX.CRead X.K (He.ga X.K c) mc ∧ ClX.CMet X.K (He.ga X.K c) mc mth p (cmA X.K c mth)) (g : X.mg c = some (.ref (He.ga X.K c))) (px : Passes (cxk X.prog X.w) X E) : CmC X k E c c mth m :=
  let ⟨fd, ps, F, hb⟩ := o.ok
  let ⟨mc, p, h1, h2⟩ := h
  ⟨⟨mc, p, _, fd, ps, h1, h2, F, hb⟩, g, px⟩
theorem rcm_eq (o : Mt X.prog X.w X.K X.mg X.base k c "__eq__" m) (px : Passes (cxk X.prog X.w) X E) (nf : PySem.W.notFirst X.K (He.ga X.K c) (.ref (He.ga X.K c2)) = true) : RcM X k .Eq (qIns c c2 m) :=
  let ⟨fd, ps, F, hb⟩ := o.ok.ok
  rcM_ins F o.me.at_ o.me.fn hb px nf
theorem rcm_ne (o : Mt X.prog X.w X.K X.mg X.base k c "__eq__" m) (px : Passes (cxk X.prog X.w) X E) (nf : PySem.W.notFirst X.K (He.ga X.K c) (.ref (He.ga X.K c2)) = true)
    (ne : PySem.W.findIn X.K (.ref (He.ga X.K c)) "__ne__" = some (some (.builtin "object.__ne__")) ∧ PySem.W.mroIn X.K (He.ga X.K c) (.type "object") = some true) : RcM X (k + 1) .NotEq (qNot (qIns c c2 m)) :=
  let ⟨fd, ps, F, hb⟩ := o.ok.ok
  rcM_ne F o.me.at_ o.me.fn hb px nf ne.1 ne.2
theorem calg_of {f : Addr} (F : FnG X.prog X.w X.K X.mg X.base k f m ∧ PySem.W.keepIn X.K (.ref f) = true) (g : X.mg x = some (.ref f)) (px : Passes (cxk X.prog X.w) X E) : CalG X k E x m := ⟨⟨f, F.1, g, F.2⟩, px⟩
theorem itr_of (h : ∃ fd ps, FnOk X.prog X.w X.K X.mg X.base (cxk X.prog X.w) k (He.ma X.K (He.ga X.K c) "__iter__") fd ps (spIt X.K (He.ga X.K c) f) ∧ Binds X.K fd ps []) (me : Meth X.K (He.ga X.K c) "__iter__" (He.ma X.K (He.ga X.K c) "__iter__"))
    (o : Mt X.prog X.w X.K X.mg X.base k c "__len__" m) (px : Passes (cxk X.prog X.w) X E) : Itr1 X k E c f m :=
  let ⟨fd, ps, F, hb⟩ := h
  ⟨⟨_, fd, ps, F, me.at_, me.fn, hb⟩, dun_of o px⟩
end
/-! ### isinstance by a table -/
theorem lookup_in {t : Tn} {b : Bool} : ∀ {tab : List (Tn × Bool)}, tab.lookup t = some b → (t, b) ∈ tab
  | [], h => by cases h
  | (u, c) :: r, h => by
    have h2 : (match t == u with | true => some c | false => r.lookup t) = some b := h
    cases q : (t == u) with
    | true =>
      rw [q] at h2
      cases h2
      rw [beq_iff_eq.mp q]
      exact List.mem_cons_self
    | false =>
      rw [q] at h2
      exact List.mem_cons_of_mem _ (lookup_in h2)
def tabB (K : PySem.W.Frag) (tab : List (Tn × Bool)) (u : Value) : Bool := tab.all fun p => decide (PySem.W.kitOne K (tnV K p.1) u = some p.2)
theorem tab_of {K : PySem.W.Frag} {tab : List (Tn × Bool)} {u : Value} (h : tabB K tab u = true) (hc : ∀ p ∈ tab, ∀ n, p.1 = .c n → IsC K n) : TabOk K tab u := fun t b e => by
  have q := lookup_in e
  exact ⟨of_decide_eq_true (List.all_eq_true.mp h (t, b) q), fun n z => hc (t, b) q n z⟩
/-! ### facts as Bools -/
abbrev Tst := PySem.W.Frag → Bool
def iscB (c : Str) : Tst := fun K => He.Fa.ok K (.cls c) && (He.eqO (PySem.W.findIn K (.ref (He.ga K c)) "__class__") (some (some (.builtin "object.__class__"))) && decide (PySem.W.mroIn K (He.ga K c) (.type "object") = some true))
theorem isc_of {K : PySem.W.Frag} {c : Str} (h : iscB c K = true) : IsC K c := by
  obtain ⟨h1, h2⟩ := He.ba h
  obtain ⟨h3, h4⟩ := He.ba h2
  exact ⟨He.cls_ok h1, He.eqO_ok h3, of_decide_eq_true h4⟩
def isfB : Tst := fun K => He.eqO (PySem.W.specialIn K (.builtin "object.__class__") "__get__") (some (some (.builtin "getset_descriptor.__get__"))) && decide (PySem.W.takesIn K (.builtin "object.__class__") = some true)
theorem isf_of {K : PySem.W.Frag} (h : isfB K = true) : IsF K := by
  obtain ⟨h1, h2⟩ := He.ba h
  exact ⟨He.eqO_ok h1, of_decide_eq_true h2⟩
def headIs (o : Option (List Value)) (g : Addr) : Bool := match o with
  | some (.ref a :: _) => decide (a = g)
  | _ => false
theorem headIs_ok {o : Option (List Value)} {g : Addr} (h : headIs o g = true) : ∃ rest, o = some (.ref g :: rest) := by
  unfold headIs at h
  split at h
  · rename_i a r
    exact ⟨r, by rw [of_decide_eq_true h]⟩
  · cases h
/-- the record behind an attribute of a class -/
def atA (K : PySem.W.Frag) (c f : Str) : Addr := match PySem.W.findIn K (.ref (He.ga K c)) f with
  | some (some (.ref p)) => p
  | _ => 0
def propB (c f : Str) : Tst := fun K => He.eqO (PySem.W.findIn K (.ref (He.ga K c)) f) (some (some (.ref (atA K c f)))) && (He.eqO (PySem.W.specialIn K (.ref (atA K c f)) "__get__") (some (some (.builtin "property.__get__"))) &&
  (decide (PySem.W.takesIn K (.ref (atA K c f)) = some true) && headIs (PySem.W.recIn K (atA K c f) "property") (prA K c f)))
theorem prop_of {K : PySem.W.Frag} {c f : Str} (h : propB c f K = true) : ∃ p, PropOf K (He.ga K c) f p (prA K c f) := by
  obtain ⟨h1, h2⟩ := He.ba h
  obtain ⟨h3, h4⟩ := He.ba h2
  obtain ⟨h5, h6⟩ := He.ba h4
  exact ⟨_, He.eqO_ok h1, He.eqO_ok h3, of_decide_eq_true h5, headIs_ok h6⟩
def mcOf (K : PySem.W.Frag) (c : Str) : Value := (PySem.W.typeIn K (.ref (He.ga K c))).getD .none
def fclsIs (o : Option PySem.W.CFound) (p C : Addr) : Bool := match o with
  | some (.get (.builtin id) (.ref a) .none (.ref b)) => decide (id = "classmethod.__get__") && (decide (a = p) && decide (b = C))
  | _ => false
theorem fclsIs_ok {o : Option PySem.W.CFound} {p C : Addr} (h : fclsIs o p C = true) : o = some (.get (.builtin "classmethod.__get__") (.ref p) .none (.ref C)) := by
  unfold fclsIs at h
  split at h
  · obtain ⟨h1, h2⟩ := He.ba h
    obtain ⟨h3, h4⟩ := He.ba h2
    rw [of_decide_eq_true h1, of_decide_eq_true h3, of_decide_eq_true h4]
  · cases h
def cmB (c f : Str) : Tst := fun K => PySem.W.readsIn K (He.ga K c) (mcOf K c) && (He.eqO (PySem.W.specialIn K (.ref (He.ga K c)) "__getattribute__") (some (some (.builtin "type.__getattribute__"))) &&
  (fclsIs (PySem.W.findCls K (.ref (He.ga K c)) (mcOf K c) f) (atA K c f) (He.ga K c) && (headIs (PySem.W.recIn K (atA K c f) "classmethod") (cmA K c f) && PySem.W.fnIn K (cmA K c f))))
theorem cm_of {K : PySem.W.Frag} {c f : Str} (h : cmB c f K = true) : ∃ mc p, ClX.CRead K (He.ga K c) mc ∧ ClX.CMet K (He.ga K c) mc f p (cmA K c f) := by
  obtain ⟨h1, h2⟩ := He.ba h
  obtain ⟨h3, h4⟩ := He.ba h2
  obtain ⟨h5, h6⟩ := He.ba h4
  obtain ⟨h7, h8⟩ := He.ba h6
  exact ⟨_, _, ⟨h1, He.eqO_ok h3⟩, fclsIs_ok h5, headIs_ok h7, h8⟩
def someB (o : Option (Option Value)) : Bool := o.isSome
theorem some_of {o : Option (Option Value)} (h : someB o = true) : o = some (o.getD none) := by
  cases o with
  | none => cases h
  | some x => rfl
def binB (c T : Str) (T' : String) (op : Operator) : Tst := fun K => PySem.W.selfFirst K (He.ga K c) && (He.eqO (PySem.W.findIn K (.ref (He.ga K c)) (dunderR op.info.2)) (some none) && (someB (PySem.W.findIn K (.type T') (PySem.dunder op.info.2)) &&
  (someB (PySem.W.findIn K (.type T') (dunderR op.info.2)) && decide (PySem.W.subIn K (.type T') (.ref (He.ga K c)) = some false))))
theorem bin_of {K : PySem.W.Frag} {c T : Str} {T' : String} {op : Operator} (h : binB c T T' op K = true) : PySem.W.selfFirst K (He.ga K c) = true ∧ PySem.W.findIn K (.ref (He.ga K c)) (dunderR op.info.2) = some none ∧
    PySem.W.findIn K (.type T') (PySem.dunder op.info.2) = some ((PySem.W.findIn K (.type T') (PySem.dunder op.info.2)).getD none) ∧ PySem.W.findIn K (.type T') (dunderR op.info.2) = some ((PySem.W.findIn K (.type T') (dunderR op.info.2)).getD none) ∧ PySem.W.subIn K (.type T') (.ref (He.ga K c)) = some false := by
  obtain ⟨h1, h2⟩ := He.ba h
  obtain ⟨h3, h4⟩ := He.ba h2
  obtain ⟨h5, h6⟩ := He.ba h4
  obtain ⟨h7, h8⟩ := He.ba h6
  exact ⟨h1, He.eqO_ok h3, some_of h5, some_of h7, of_decide_eq_true h8⟩
def neB (c : Str) : Tst := fun K => He.eqO (PySem.W.findIn K (.ref (He.ga K c)) "__ne__") (some (some (.builtin "object.__ne__"))) && decide (PySem.W.mroIn K (He.ga K c) (.type "object") = some true)
theorem ne_of' {K : PySem.W.Frag} {c : Str} (h : neB c K = true) : PySem.W.findIn K (.ref (He.ga K c)) "__ne__" = some (some (.builtin "object.__ne__")) ∧ PySem.W.mroIn K (He.ga K c) (.type "object") = some true := by
  obtain ⟨h1, h2⟩ := He.ba h
  exact ⟨He.eqO_ok h1, of_decide_eq_true h2⟩
/-! ### the hook -/
/-- a def: its address by the text, its parts -/
structure Df where
  at_ : PySem.W.Frag → Addr
  name : Str
  qual : Str
  params : Arguments
  body : List Stmt
  scope : Scope
  kwd : List (Str × He.Dv) := []
def fnAt (K : PySem.W.Frag) (a : Addr) : He.FnW := match K.lookup a with
  | some ⟨_, _, .func fd, _⟩ => some (fd.name, fd.qualname, fd.params, fd.body, fd.scope, fd.globals, fd.closure, fd.builtins)
  | _ => none
def Df.val (d : Df) : He.FnW := some (d.name, d.qual, d.params, .stmts d.body, d.scope, mainGlobals, [], builtinsNs)
def Df.kws (K : PySem.W.Frag) (d : Df) : List (Str × V) := d.kwd.map fun q => (q.1, q.2.v K)
def Df.fine (K : PySem.W.Frag) (d : Df) : Bool := PySem.W.keepIn K (.ref (d.at_ K)) && (match K.lookup (d.at_ K) with
  | some ⟨_, _, .func fd, _⟩ => PySem.W.codeIn K fd.code d.qual && (He.dflB K fd.defaults [] && He.kwdB K fd.kwdefaults (d.kws K))
  | _ => false)
theorem Df.funD {K : PySem.W.Frag} {d : Df} (e : fnAt K (d.at_ K) = d.val) (c : d.fine K = true) : ∃ fd, FunD K d.name d.qual d.params d.body d.scope [] (d.kws K) (d.at_ K) fd := by
  obtain ⟨kp, r⟩ := He.ba c
  unfold fnAt at e
  cases q : K.lookup (d.at_ K) with
  | none =>
    rw [q] at r
    cases r
  | some o =>
    obtain ⟨oc, od, dt, osl⟩ := o
    rw [q] at r e
    cases dt with
    | func fd =>
      obtain ⟨a1, a2, a3, a4, a5, a6, a7, a8, a9, b1, b2, b3, b4, b5, b6⟩ := fd
      have e2 : (some (a1, a2, a3, a4, a5, a6, a7, b6) : He.FnW) = some (d.name, d.qual, d.params, .stmts d.body, d.scope, mainGlobals, [], builtinsNs) := e
      simp only [Option.some.injEq, Prod.mk.injEq] at e2
      obtain ⟨z1, z2, z3, z4, z5, z6, z7, z8⟩ := e2
      subst z1 z2 z3 z4 z5 z6 z7 z8
      have r2 : (PySem.W.codeIn K b4 d.qual && (He.dflB K a8 [] && He.kwdB K a9 (d.kws K))) = true := r
      obtain ⟨k1, k2⟩ := He.ba r2
      obtain ⟨k3, k4⟩ := He.ba k2
      exact ⟨_, ⟨oc, od, a8, a9, b1, b2, b3, b4, b5, osl, rfl, q, k1, He.dflB_ok k3, He.kwdB_ok k4⟩, kp⟩
    | _ => cases r
def obsK (ex : List Tst) (fn : List Df) (K : PySem.W.Frag) : He.AlD := ((ex.all fun e => e K) && fn.all fun d => d.fine K, fn.map fun d => fnAt K (d.at_ K))
def Says (ex : List Tst) (fn : List Df) (K : PySem.W.Frag) : Prop := obsK ex fn K = (true, fn.map Df.val)
def obsR (n : Nat) (ex : List Tst) (fn : List Df) (g : Addr → Option Obj) : He.AlD := obsK ex fn (He.frG g (cStatics :: He.asD g n))
def hookR (n : Nat) (ex : List Tst) (fn : List Df) : PySem.W.Hook where
  α := He.AlD
  obs := fun s => obsR n ex fn s.heap.get?
  val := fun _ => (true, fn.map Df.val)
  says := fun _ h => ∃ K : PySem.W.Frag, K.In h ∧ Says ex fn K
  of := fun _ _ e => ⟨_, He.frG_in, e⟩
  keeps := fun _ _ _ ⟨K, hK, c⟩ k => ⟨K, PySem.W.Frag.In.keeps hK k, c⟩
theorem obsR_eq {n : Nat} {ex : List Tst} {fn : List Df} {g : Addr → Option Obj} {s : Shared} (h : ∀ a, g a = s.heap.get? a) : obsR n ex fn g = (hookR n ex fn).obs s := by
  have e : g = s.heap.get? := funext h
  subst e
  rfl
section
variable {ex : List Tst} {fn : List Df} {K : PySem.W.Frag}
theorem Says.fact (c : Says ex fn K) (i : Nat) {e : Tst} (h : ex[i]? = some e := by rfl) : e K = true :=
  List.all_eq_true.mp (He.ba (show ((ex.all fun e => e K) && fn.all fun d => d.fine K) = true from congrArg (fun z : He.AlD => z.1) c)).1 e (List.mem_of_getElem? h)
theorem Says.def_ (c : Says ex fn K) (i : Nat) {d : Df} (h : fn[i]? = some d := by rfl) : ∃ fd, FunD K d.name d.qual d.params d.body d.scope [] (d.kws K) (d.at_ K) fd := by
  have f1 := (He.ba (show ((ex.all fun e => e K) && fn.all fun d => d.fine K) = true from congrArg (fun z : He.AlD => z.1) c)).2
  have f2 : fn.map (fun d => fnAt K (d.at_ K)) = fn.map Df.val := congrArg (fun z : He.AlD => z.2) c
  have f3 : (fn.map fun d => fnAt K (d.at_ K))[i]? = (fn.map Df.val)[i]? := by rw [f2]
  rw [List.getElem?_map, List.getElem?_map, h] at f3
  exact Df.funD (Option.some.inj f3) (List.all_eq_true.mp f1 d (List.mem_of_getElem? h))
end
end RL
set_option Elab.async false
set_option linter.all false
set_option maxRecDepth 100000
/-! RL18: the law's call, its def told by m and run while no repr is under way; tables of code objects. -/
namespace RL
open PySem PySem.Spec PyProof.Rows L2
/-- the defs that make lambdas: their code objects and tables -/
def csK (K : PySem.W.Frag) : List (Addr × Addr) := lamNames.filterMap fun x => PySem.W.tabIn K x
def lamB (recs : List Str) (K : PySem.W.Frag) : Bool := ((csK K).all fun p => (K.lookup p.2).isNone) && lamNames.all fun x => recs.contains x || (PySem.W.tabIn K x).isNone
theorem tabsK_cs {K : PySem.W.Frag} {p : Addr × Str} (h : p ∈ tabsK K) : ∃ c, (c, p.1) ∈ csK K := by
  obtain ⟨x, hx, e⟩ := List.mem_filterMap.mp h
  obtain ⟨c, e1, e2⟩ := Option.map_eq_some_iff.mp e
  subst e2
  exact ⟨c.1, List.mem_filterMap.mpr ⟨x, hx, e1⟩⟩
/-- what is never written, of a heap -/
def noTb (H : Hp) : Hp := fun b => match H b with
  | some (.tbl _) => none
  | o => o
theorem noTb_le (H : Hp) : Same (noTb H) H := fun b o e => by
  unfold noTb at e
  split at e
  · cases e
  · exact e
theorem noTb_ng (H : Hp) (b : Addr) (ps : Array Value) : noTb H b ≠ some (.tbl ps) := fun e => by
  unfold noTb at e
  split at e
  · cases e
  · rename_i h
    exact h ps e
theorem noTb_at {H : Hp} {b : Addr} {o : HO} (e : H b = some o) (h : ∀ ps, o ≠ .tbl ps) : noTb H b = some o := by
  unfold noTb
  split
  · rename_i ps q
    rw [e] at q
    exact absurd (Option.some.inj q) (h ps)
  · exact e
theorem noTb_sq {K : PySem.W.Frag} {H : Hp} {a : Addr} {xs : List V} (h : SqL K H a xs) : SqL K (noTb H) a xs := by
  rcases h with (h | ⟨o, h⟩) | h
  · exact .inl (.inl (noTb_at h (by intro _ z; cases z)))
  · exact .inl (.inr ⟨o, noTb_at h (by intro _ z; cases z)⟩)
  · exact .inr h
theorem law_end {P : Program} {w : World} {K : PySem.W.Frag} {mg mb : Str → Option Value} {k : Nat} {fa a : Addr} {m : Mf} {t : Shared} {vs : List Value} {ns : List Int} (KX : K.In t.heap) (n1 : t.heap.Ns mainGlobals mg) (n2 : t.heap.Ns builtinsNs mb) (n3 : ∀ x : Str, x ≠ "__name__" → mb x = bootBuiltins x)
    (n4 : t.heap.NoLimit) (n5 : t.gens = #[]) (hT : ∀ p ∈ csK K, t.heap.get? p.2 = some { cls := .none, data := .fields #[] }) (nT : ∀ p ∈ csK K, K.lookup p.2 = none) (C : ∀ p ∈ csK K, PySem.W.CodeHd t.heap p.1 p.2)
    (hbm : ∃ (bm : Addr) (ob : Obj), mg "__builtins__" = some (.ref bm) ∧ bm ≠ builtinsNs ∧ t.heap.get? bm = some ob ∧ ob.cls = .type "module" ∧ ob.dict = some builtinsNs ∧ ob.data = .plain)
    (la : t.heap.get? a = some { cls := .type "list", data := .seq vs.toArray }) (li : IntsAre vs ns) (ll : ns.length ≤ sizeLine) (hr : Room k callerA) (F : ∀ base : Heap, K.In base → base.Ns mainGlobals mg → (∀ p ∈ csK K, LamX.TabB base mg p.1 p.2) → FnG P w K mg base k fa m)
    (hm : m [.fz (ns.map .int)] [] = .ok (.bl true) []) : codeAny (model P w) callerA (.call (.ref fa) ⟨[.ref a], []⟩) (fun r s' => r = .ok (.ret (.bool true)) ∧ OldK t.heap s'.heap ∧ s'.os = t.os ∧ AllBare s'.gens) t := by
  have rv := L2.vals_ints li
  have lv := li.length
  have isT : ∀ b : Addr, b ∈ (csK K).map (·.2) → t.heap.get? b = some { cls := .none, data := .fields #[] } := fun b hb => by
    obtain ⟨p, hp, e⟩ := List.mem_map.mp hb
    rw [← e]
    exact hT p hp
  have aT : a ∉ (csK K).map (·.2) := fun z => by
    have q := isT a z
    rw [la] at q
    have z' : Data.seq vs.toArray _ = Data.fields #[] := congrArg Obj.data (Option.some.inj q)
    cases z'
  have memT : ∀ p ∈ csK K, p.2 ∈ (csK K).map (·.2) := fun p hp => List.mem_map.mpr ⟨p, hp, rfl⟩
  have core : ∀ H : Hp, (∀ p ∈ csK K, H p.2 = some (.tbl #[])) → (∀ b, H b = none ∨ b ∈ (csK K).map (·.2) ∨ (b = a ∧ ∃ o xs, H b = some (.frz o (.lst xs)))) → SqL K H a (ns.map V.int) → HOk P w H t.heap → (H a ≠ none → K.lookup a = none) →
      codeAny (model P w) callerA (.call (.ref fa) ⟨[.ref a], []⟩) (fun r s' => r = .ok (.ret (.bool true)) ∧ OldK t.heap s'.heap ∧ s'.os = t.os ∧ AllBare s'.gens) t := by
    intro H hH only sq hok nk
    have seen : ∀ {b : Addr} {o : Obj}, t.heap.get? b = some o → H b = none → (hidT t.heap H).get? b = some o := fun e z => hidT_get e z
    have free : ∀ {b : Addr} {o : Obj}, t.heap.get? b = some o → (∀ vs n, o.data ≠ .seq vs n) → o.data ≠ .fields #[] → H b = none := fun {b o} e h1 h2 => by
      rcases only b with q | q | ⟨q, _⟩
      · exact q
      · rw [isT b q] at e
        cases e
        exact absurd rfl h2
      · rw [q, la] at e
        cases e
        exact absurd rfl (h1 _ _)
    have notA : ∀ {b : Addr} {o : Obj} {es : Array DictEntry} {ep : Nat}, t.heap.get? b = some o → o.data = .dict es ep → H b = none := fun {b o es ep} e z => free e (fun vs n y => by rw [z] at y; cases y) fun y => by rw [z] at y; cases y
    have ns' : ∀ {b : Addr} {f : Str → Option Value}, t.heap.Ns b f → (hidT t.heap H).Ns b f := fun {b f} ⟨o, es, ep, e, z, r⟩ => ⟨o, es, ep, seen e (notA e z), z, r⟩
    have inK : K.In (hidT t.heap H) := fun b o e => seen (KX b o e) (by
      rcases only b with q | q | ⟨q1, o', xs, q2⟩
      · exact q
      · obtain ⟨p, hp, ep⟩ := List.mem_map.mp q
        rw [← ep, nT p hp] at e
        cases e
      · subst q1
        rw [nk (by rw [q2]; simp)] at e
        cases e)
    have md : Mod K mg (hidT t.heap H) := ⟨inK, ns' n1, ⟨mb, ns' n2, n3⟩, let ⟨mc, z1, z2⟩ := n4; ⟨mc, ns' z1, z2⟩⟩
    have TB : ∀ p ∈ csK K, LamX.TabB (hidT t.heap H) mg p.1 p.2 := fun p hp => by
      have hTp := hT p hp
      refine ⟨?_, ?_, fun z => ?_⟩
      · obtain ⟨o, us, file, tf, flags, tg, inF, text, tt, e1, r1, r2, r3, r4, r5, r6, r7, r8, hne⟩ := C p hp
        refine ⟨o, us, file, tf, flags, tg, inF, text, tt, seen e1 (free e1 (fun vs n z => ?_) fun z => ?_), r1, r2, r3, r4, r5, r6, r7, r8, hne⟩
        · rw [r2] at z
          cases z
        · rw [r2] at z
          cases z
          simp at r3
      · obtain ⟨bm, ob, b1, b2, b3, b4, b5, b6⟩ := hbm
        have nG : bm ≠ mainGlobals := fun q => by
          obtain ⟨o, es, ep, e, hd, _⟩ := n1
          rw [q, e] at b3
          cases b3
          rw [hd] at b6
          cases b6
        have nP : bm ≠ p.2 := fun q => by
          rw [q, hTp] at b3
          cases b3
          cases b6
        refine ⟨bm, ob, b1, b2, nG, nP, seen b3 (free b3 (fun vs n z => ?_) fun z => ?_), b4, b5, b6⟩
        · rw [b6] at z
          cases z
        · rw [b6] at z
          cases z
      · obtain ⟨o, es, ep, e, hd, _⟩ := n1
        rw [z, hTp] at e
        cases e
        cases hd
    have e0 : Env0 P w K mg (hidT t.heap H) callerA [] t H := ⟨rfl, md, fun b o e => of_hidT e, Nat.le_of_eq (hidT_size _ _), trivial, fun b z => (nomatch z), hok, .of_eq n5⟩
    have tb : LamX.Tabs (tabsK K) H := fun p hp => by
      obtain ⟨c, hc⟩ := tabsK_cs hp
      exact LamX.TabS.nil (hH _ hc)
    have sp : spM K m [.ref a] H (fun v _ => v = .bl true) E0 := by
      refine ⟨noTb H, [], [], [.fz (ns.map .int)], ⟨noTb_le H, rfl, List.nodup_nil, fun _ z => (nomatch z), fun i c b z => by simp at z, tb, noTb_ng H⟩, Reps.one ?_, ?_⟩
      · simp only [Rep]
        refine ⟨a, _, rfl, noTb_sq sq, ?_⟩
        have : ∀ l : List Int, Reps K [] (noTb H) (l.map .int) (l.map V.int) := fun l => by
          induction l with
          | nil => exact Reps.nil
          | cons x l ih => exact Reps.cons (by simp [Rep]) ih
        exact this ns
      · rw [hm]
        exact fun v G' H' as' _ _ r => by simpa [Rep] using r
    refine codeAny_mono (F _ inK (ns' n1) TB callerA [] t H [.ref a] [.ref a] _ _ hr rfl e0 (.cons (show RelV (V.ref a) (Value.ref a) from rfl) .nil) sp) fun r s' z => ?_
    cases r with
    | error e =>
      obtain ⟨_, _, _, _, _, _, _, _, _, _, _, _, y⟩ := z
      exact y.elim
    | ok fl =>
      cases fl with
      | next => exact False.elim z
      | brk => exact False.elim z
      | cont => exact False.elim z
      | ret u =>
        obtain ⟨v, H', os, bare, un, hok', rr, q⟩ := z
        have q' : v = .bl true := q
        subst q'
        obtain rfl : u = Value.bool true := rr
        have key : ∀ b o, b ∉ (csK K).map (·.2) → t.heap.get? b = some o → s'.heap.get? b = some o := fun b o nb e => by
          rcases only b with q | q | ⟨q1, ob, xs, q2⟩
          · exact un.keep b o e q (fun y => nomatch y) (fun y => nomatch y)
          · exact absurd q nb
          · obtain ⟨y1, _⟩ := hok b _ q2
            obtain ⟨y2, _⟩ := hok' b _ (un.frzs b ob _ q2)
            rw [e] at y1
            cases y1
            exact y2
        have grown : ∀ p ∈ csK K, ∃ more : Array Value, s'.heap.get? p.2 = some { cls := .none, data := .fields more } := fun p hp => by
          obtain ⟨more, z⟩ := un.tbls p.2 #[] (hH p hp)
          exact ⟨_, hok' p.2 _ z⟩
        refine ⟨rfl, ⟨fun b o e => ?_, fun b o e => ?_⟩, os, bare⟩
        · by_cases hb : b ∈ (csK K).map (·.2)
          · obtain ⟨p, hp, ep⟩ := List.mem_map.mp hb
            obtain ⟨more, hmo⟩ := grown p hp
            rw [← ep] at e ⊢
            rw [hT p hp] at e
            cases e
            exact .inr (.inl ⟨((C p hp).tab (hT p hp)).isCodeTable, rfl, #[], more, rfl, by rw [Array.empty_append]; exact hmo⟩)
          · exact .inl (key b o hb e)
        · by_cases hb : b ∈ (csK K).map (·.2)
          · obtain ⟨p, hp, ep⟩ := List.mem_map.mp hb
            obtain ⟨more, hmo⟩ := grown p hp
            rw [← ep]
            exact ⟨_, hmo⟩
          · exact ⟨o, key b o hb e⟩
  cases hk : K.lookup a with
  | some o =>
    have e := KX a o hk
    rw [la] at e
    cases e
    refine core (fun b => if b ∈ (csK K).map (·.2) then some (.tbl #[]) else none) (fun p hp => if_pos (memT p hp)) (fun b => ?_) (.inr ⟨_, vs.toArray, _, hk, rfl, rfl, rfl, by rw [List.size_toArray, lv]; exact ll, by simpa using rv⟩) (fun b u z => ?_) fun z => absurd (show (if a ∈ (csK K).map (·.2) then some (HO.tbl #[]) else none) = none from if_neg aT) z
    · by_cases hb : b ∈ (csK K).map (·.2)
      · exact .inr (.inl hb)
      · exact .inl (if_neg hb)
    · by_cases hb : b ∈ (csK K).map (·.2)
      · have z' := (if_pos hb).symm.trans z
        cases z'
        exact isT b hb
      · have z' := (if_neg hb).symm.trans z
        cases z'
  | none =>
    refine core (fun b => if b = a then some (.frz { cls := .type "list", data := .seq vs.toArray } (.lst (ns.map V.int))) else if b ∈ (csK K).map (·.2) then some (.tbl #[]) else none) (fun p hp => (if_neg (show ¬ p.2 = a from fun z => aT (by rw [← z]; exact memT p hp))).trans (if_pos (memT p hp)))
      (fun b => ?_) (.inl (.inr ⟨{ cls := .type "list", data := .seq vs.toArray }, if_pos rfl⟩)) (fun b u z => ?_) fun _ => hk
    · by_cases hb : b = a
      · exact .inr (.inr ⟨hb, _, _, if_pos hb⟩)
      · by_cases hb2 : b ∈ (csK K).map (·.2)
        · exact .inr (.inl hb2)
        · exact .inl ((if_neg hb).trans (if_neg hb2))
    · by_cases hb : b = a
      · have y := (if_pos hb).symm.trans z
        cases y
        subst hb
        exact ⟨la, by rw [List.length_map]; exact ll, vs, _, rv, la⟩
      · have z1 := (if_neg hb).symm.trans z
        by_cases hb2 : b ∈ (csK K).map (·.2)
        · have z' := (if_pos hb2).symm.trans z1
          cases z'
          exact isT b hb2
        · have z' := (if_neg hb2).symm.trans z1
          cases z'
/-- the goal that the head leaves, from what the law's def does -/
theorem walk_end {l : PySem.W.OpenLaw} {n k : Nat} {q : Program} {loose : List Str} {XP : (Str → Option Value) → Heap → Prop} {YP : World → Heap → Prop} {d : DefRec} {m : Mf} (recs : List Str) (hn : l.most = some n) (hn2 : n ≤ sizeLine) (hdf : d.params.defaults = []) (hr : Room k callerA)
    (hrec : ∀ x ∈ recs, ((recsOf q).find? fun e => e.name == x).isSome = true)
    (F : ∀ (w : World) (mg : Str → Option Value) (fa : Addr) (h : Heap), YP w h → h.Ns mainGlobals mg → mg d.name = some (.ref fa) → ∃ K : PySem.W.Frag, K.In h ∧ lamB recs K = true ∧ ∀ base : Heap, K.In base → base.Ns mainGlobals mg → (∀ p ∈ csK K, LamX.TabB base mg p.1 p.2) → FnG l.prog w K mg base k fa m)
    (hm : ∀ ns : List Int, ns.length ≤ n → (∀ i ∈ ns, Builtin.Int.intBits i ≤ 1048576) → m [.fz (ns.map .int)] [] = .ok (.bl true) []) : PySem.W.WalkO q loose XP YP l.row.toRowW d [] (fun f vs => PySem.call f vs) := by
  refine Att.attach_callB hn hdf fun w s₀ s₁ mg mb fa o pm cd doc a vs ns G Y ho hd hcd hmg hobj hints hlen hbits hg => ?_
  obtain ⟨K, KX, hB, hF⟩ := F w mg fa _ Y G.T.g hmg
  obtain ⟨b1, b2⟩ := Bool.and_eq_true_iff.mp hB
  have nT : ∀ p ∈ csK K, K.lookup p.2 = none := fun p hp => by
    have := List.all_eq_true.mp b1 p hp
    exact Option.isNone_iff_eq_none.mp this
  have both : ∀ p ∈ csK K, PySem.W.CodeHd s₁.heap p.1 p.2 ∧ s₁.heap.get? p.2 = some (PySem.W.tabObj #[]) := fun p hp => by
    obtain ⟨x, hx, e⟩ := List.mem_filterMap.mp hp
    have hx2 := List.all_eq_true.mp b2 x hx
    rcases Bool.or_eq_true_iff.mp hx2 with z | z
    · obtain ⟨d', hd'⟩ := Option.isSome_iff_exists.mp (hrec x (List.contains_iff_mem.mp z))
      exact PySem.W.tab_of G.T KX hd' e
    · rw [Option.isNone_iff_eq_none.mp z] at e
      cases e
  exact law_end KX G.T.g G.T.b G.T.builtins G.T.nolimit hg (fun p hp => (both p hp).2) nT (fun p hp => (both p hp).1) G.T.bmain hobj hints (Nat.le_trans hlen hn2) hr hF (hm ns hlen hbits)
end RL
set_option Elab.async false
set_option linter.all false
/-! RL19: telling what the mirrors do -/
namespace RL
open PySem L2
/-- for simp, ahead of a bind's parts: so that what goes on is looked at last -/
theorem bind_m {α β : Type} {r : R α} {f : α → List Ce → R β} : r.bind f = match r with
  | .ok a ws => f a ws
  | .ex e ws => .ex e ws
  | .bad => .bad := rfl
theorem cut_app (ws xs : List Ce) : cutOk ws (ws ++ xs) := fun i hi => .inl (List.getElem?_append_left hi)
theorem take_app (ws xs : List Ce) : (ws ++ xs).take ws.length = ws := by simp
/-- the end of a def that made the cells xs -/
theorem frz_app {ws xs : List Ce} {d d' : D} (h : frzD ws.length (ws ++ xs) d = some d') (h0 : xs = [] → d' = d) : frzR ws (.ok d (ws ++ xs)) = .ok d' ws := by
  unfold frzR
  by_cases e : xs = []
  · subst e
    rw [h0 rfl]
    simp
  · have : (ws ++ xs).length ≠ ws.length := by
      have := List.length_pos_iff.mpr e
      rw [List.length_append]
      omega
    simp only [this, if_false, h, cut_app, if_true, take_app]
theorem frz_len {ws ws' : List Ce} {d : D} (h : ws'.length = ws.length) : frzR ws (.ok d ws') = .ok d ws' := by simp [frzR, h]
theorem frz_same (ws : List Ce) (d : D) : frzR ws (.ok d ws) = .ok d ws := frz_len rfl
/-- a body that ends well with the same store -/
theorem fin_rt {kp : Bool} {ws : List Ce} {ρ : List (Option D)} {d : D} : fin kp ws (.ok (ρ, .rt d) ws) = .ok d ws := by
  cases kp <;> simp [fin, flR, frz_same]
theorem fin_nx {kp : Bool} {ws : List Ce} {ρ : List (Option D)} : fin kp ws (.ok (ρ, .nx) ws) = .ok .non ws := by
  cases kp <;> simp [fin, flR, frz_same]
theorem fin_rtL {ws ws' : List Ce} {ρ : List (Option D)} {d : D} (h : ws'.length = ws.length) : fin false ws (.ok (ρ, .rt d) ws') = .ok d ws' := by
  simp [fin, flR, frz_len h]
theorem fin_nxL {ws ws' : List Ce} {ρ : List (Option D)} (h : ws'.length = ws.length) : fin false ws (.ok (ρ, .nx) ws') = .ok .non ws' := by
  simp [fin, flR, frz_len h]
theorem fin_rtA {ws xs : List Ce} {ρ : List (Option D)} {d d' : D} (h : frzD ws.length (ws ++ xs) d = some d') (h0 : xs = [] → d' = d) : fin false ws (.ok (ρ, .rt d) (ws ++ xs)) = .ok d' ws := by
  simp [fin, flR, frz_app h h0]
theorem fin_nxA {ws xs : List Ce} {ρ : List (Option D)} : fin false ws (.ok (ρ, .nx) (ws ++ xs)) = .ok .non ws := by
  simp [fin, flR, frz_app (d := .non) (d' := .non) rfl (fun _ => rfl)]
/-! lists -/
theorem lc_map {src : Option Nat} {t : Tg} {el : Se} {ρ : List (Option D)} {f : D → D} {ws : List Ce} {all : List D} (hs : SrcOk src all ws) :
    ∀ (ds acc : List D), acc.length + ds.length ≤ 100000 → (∀ d ∈ ds, ∃ ρ1, t d ρ ws = .ok ρ1 ws ∧ el ρ1 ws = .ok (f d) ws) → loopLc all src t sYes el ρ ds acc ws = .ok (acc ++ ds.map f) ws
  | [], acc, _, _ => by simp [loopLc, hs]
  | d :: ds, acc, hl, h => by
    obtain ⟨ρ1, h1, h2⟩ := h d (List.mem_cons_self ..)
    have hl' : acc.length < 100000 := by
      simp only [List.length_cons] at hl
      omega
    have z := lc_map (f := f) hs ds (acc ++ [f d]) (by simp at hl ⊢; omega) (fun x hx => h x (List.mem_cons_of_mem _ hx))
    simp only [loopLc, hs, if_true, h1, h2, nox, R.bind_ok, sYes, hl', z]
    simp
theorem lc_filt {src : Option Nat} {t : Tg} {c : Sb} {el : Se} {ρ : List (Option D)} {f : D → D} {p : D → Bool} {ws : List Ce} {all : List D} (hs : SrcOk src all ws) :
    ∀ (ds acc : List D), acc.length + ds.length ≤ 100000 → (∀ d ∈ ds, ∃ ρ1, t d ρ ws = .ok ρ1 ws ∧ c ρ1 ws = .ok (p d) ws ∧ el ρ1 ws = .ok (f d) ws) →
    loopLc all src t c el ρ ds acc ws = .ok (acc ++ (ds.filter p).map f) ws
  | [], acc, _, _ => by simp [loopLc, hs]
  | d :: ds, acc, hl, h => by
    obtain ⟨ρ1, h1, h2, h3⟩ := h d (List.mem_cons_self ..)
    have hl' : acc.length < 100000 := by
      simp only [List.length_cons] at hl
      omega
    by_cases e : p d = true
    · have z := lc_filt (f := f) (p := p) (c := c) hs ds (acc ++ [f d]) (by simp at hl ⊢; omega) (fun x hx => h x (List.mem_cons_of_mem _ hx))
      simp only [loopLc, hs, if_true, h1, h2, h3, nox, R.bind_ok, hl', z, e]
      simp [e]
    · have z := lc_filt (f := f) (p := p) (c := c) hs ds acc (by simp at hl ⊢; omega) (fun x hx => h x (List.mem_cons_of_mem _ hx))
      simp only [loopLc, hs, if_true, h1, h2, nox, R.bind_ok, z, e]
      simp [e]
theorem src_none (ds : List D) (ws : List Ce) : SrcOk none ds ws := trivial
/-- a loop that does not write, ends with the slots told by f -/
theorem for_fold {src : Option Nat} {t : Tg} {body : Ss} {ws : List Ce} {all : List D} (hs : SrcOk src all ws) (I : List D → List (Option D) → Prop) :
    ∀ (ds : List D) (ρ : List (Option D)), I ds ρ → (∀ d r ρ, I (d :: r) ρ → ∃ ρ1 ρ2, t d ρ ws = .ok ρ1 ws ∧ body ρ1 ws = .ok (ρ2, .nx) ws ∧ I r ρ2) → ∃ ρ', loopFor all src t body ds ρ ws = .ok (ρ', .nx) ws ∧ I [] ρ'
  | [], ρ, i, _ => ⟨ρ, by simp [loopFor, hs], i⟩
  | d :: ds, ρ, i, h => by
    obtain ⟨ρ1, ρ2, h1, h2, h3⟩ := h d ds ρ i
    obtain ⟨ρ', z1, z2⟩ := for_fold hs I ds ρ2 h3 h
    exact ⟨ρ', by simp only [loopFor, hs, if_true, h1, h2, R.bind_ok, z1], z2⟩
/-- a loop over values alone, the store changing -/
theorem for_inv {t : Tg} {body : Ss} {all : List D} (I : List D → List (Option D) → List Ce → Prop) :
    ∀ (ds : List D) (ρ : List (Option D)) (ws : List Ce), I ds ρ ws → (∀ d r ρ ws, I (d :: r) ρ ws → ∃ ρ1 ws1 ρ2 ws2, t d ρ ws = .ok ρ1 ws1 ∧ body ρ1 ws1 = .ok (ρ2, .nx) ws2 ∧ I r ρ2 ws2) →
    ∃ ρ' ws', loopFor all none t body ds ρ ws = .ok (ρ', .nx) ws' ∧ I [] ρ' ws'
  | [], ρ, ws, i, _ => ⟨ρ, ws, by simp [loopFor, SrcOk], i⟩
  | d :: ds, ρ, ws, i, h => by
    obtain ⟨ρ1, ws1, ρ2, ws2, h1, h2, h3⟩ := h d ds ρ ws i
    obtain ⟨ρ', ws', z1, z2⟩ := for_inv (all := all) I ds ρ2 ws2 h3 h
    exact ⟨ρ', ws', by simp only [loopFor, SrcOk, if_true, h1, h2, R.bind_ok, z1], z2⟩
/-- a comprehension over values, the store changing -/
theorem lc_inv {t : Tg} {c : Sb} {el : Se} {ρ : List (Option D)} {all : List D} (I : List D → List D → List Ce → Prop) :
    ∀ (ds acc : List D) (ws : List Ce), acc.length + ds.length ≤ 100000 → I ds acc ws → (∀ d r acc ws, I (d :: r) acc ws → ∃ ρ1 ws1 b ws2, t d ρ ws = .ok ρ1 ws1 ∧ c ρ1 ws1 = .ok b ws2 ∧
      ((b = true ∧ ∃ y ws3, el ρ1 ws2 = .ok y ws3 ∧ I r (acc ++ [y]) ws3) ∨ (b = false ∧ I r acc ws2))) → ∃ l ws', loopLc all none t c el ρ ds acc ws = .ok l ws' ∧ I [] l ws'
  | [], acc, ws, _, i, _ => ⟨acc, ws, by simp [loopLc, SrcOk], i⟩
  | d :: ds, acc, ws, hl, i, h => by
    obtain ⟨ρ1, ws1, b, ws2, h1, h2, h3⟩ := h d ds acc ws i
    have hl' : acc.length < 100000 := by
      simp only [List.length_cons] at hl
      omega
    rcases h3 with ⟨rfl, y, ws3, h3, h4⟩ | ⟨rfl, h4⟩
    · obtain ⟨l, ws', z1, z2⟩ := lc_inv (all := all) I ds (acc ++ [y]) ws3 (by simp at hl ⊢; omega) h4 h
      exact ⟨l, ws', by simp only [loopLc, SrcOk, if_true, h1, h2, h3, nox, R.bind_ok, hl', z1], z2⟩
    · obtain ⟨l, ws', z1, z2⟩ := lc_inv (all := all) I ds acc ws2 (by simp at hl ⊢; omega) h4 h
      exact ⟨l, ws', by simp only [loopLc, SrcOk, if_true, h1, h2, nox, R.bind_ok, z1, Bool.false_eq_true, if_false], z2⟩
/-! plain data -/
theorem py_ints : ∀ S : List Int, toPys0 (S.map .int) = some (S.map PyData.int)
  | [] => rfl
  | a :: S => by simp [toPys0, toPy0, py_ints S]
theorem lay_ints : ∀ S : List Int, PyData.canLayAll0 (S.map PyData.int) = true
  | [] => rfl
  | a :: S => by simp [PyData.canLayAll0, PyData.canLay0, lay_ints S]
theorem eqv_ints : ∀ S T : List Int, PyData.eqvAll (S.map PyData.int) (T.map PyData.int) = decide (S = T)
  | [], [] => rfl
  | [], _ :: _ => rfl
  | _ :: _, [] => rfl
  | a :: S, b :: T => by
    simp only [List.map_cons, PyData.eqvAll, PyData.eqv, eqv_ints S T, List.cons.injEq, Bool.decide_and]
    congr 1
theorem dep_ints : ∀ S : List Int, PyData.depthAll (S.map PyData.int) = 0
  | [] => rfl
  | a :: S => by simp [PyData.depthAll, PyData.depth, dep_ints S]
/-- a tuple of numbers, a list of such tuples -/
def dNums (s : List Int) : D := .tup (s.map .int)
def pNums (s : List Int) : PyData := .tuple (s.map .int)
theorem py_nums (s : List Int) : toPy0 (dNums s) = some (pNums s) := by simp [dNums, pNums, toPy0, py_ints]
theorem lay_nums (s : List Int) : (pNums s).canLay0 = true := by simp [pNums, PyData.canLay0, lay_ints]
theorem dep_nums (s : List Int) : (pNums s).depth = 1 := by simp [pNums, PyData.depth, dep_ints]
theorem eqv_nums (s t : List Int) : PyData.eqv (pNums s) (pNums t) = decide (s = t) := by simp only [pNums, PyData.eqv, eqv_ints]
theorem py_numss : ∀ l : List (List Int), toPys0 (l.map dNums) = some (l.map pNums)
  | [] => rfl
  | a :: l => by simp [toPys0, py_nums, py_numss l]
theorem lay_numss : ∀ l : List (List Int), PyData.canLayAll0 (l.map pNums) = true
  | [] => rfl
  | a :: l => by simp [PyData.canLayAll0, lay_nums, lay_numss l]
theorem dep_numss : ∀ l : List (List Int), PyData.depthAll (l.map pNums) ≤ 1
  | [] => by simp [PyData.depthAll]
  | a :: l => by
    have := dep_numss l
    simp only [List.map_cons, PyData.depthAll, dep_nums]
    omega
theorem eqv_numss : ∀ k l : List (List Int), PyData.eqvAll (k.map pNums) (l.map pNums) = decide (k = l)
  | [], [] => rfl
  | [], _ :: _ => rfl
  | _ :: _, [] => rfl
  | a :: k, b :: l => by
    simp only [List.map_cons, PyData.eqvAll, eqv_nums, eqv_numss k l, List.cons.injEq, Bool.decide_and]
theorem any_numss (s : List Int) : ∀ l : List (List Int), ((l.map pNums).any fun z => PyData.eqv z (pNums s)) = decide (s ∈ l)
  | [] => by simp
  | a :: l => by
    simp only [List.map_cons, List.any_cons, eqv_nums, any_numss s l, List.mem_cons, Bool.decide_or]
    congr 1
    exact decide_eq_decide.mpr eq_comm
theorem sh_ints (S : List Int) : SeqAt.shaped (.list (S.map PyData.int)) = true := by simp [SeqAt.shaped, PyData.canLay0, lay_ints, PyData.depth, dep_ints]
theorem sh_nums (s : List Int) : SeqAt.shaped (pNums s) = true := by simp [SeqAt.shaped, lay_nums, dep_nums]
theorem sh_numss (l : List (List Int)) : SeqAt.shaped (.list (l.map pNums)) = true := by
  have := dep_numss l
  simp only [SeqAt.shaped, PyData.canLay0, lay_numss, PyData.depth, Bool.true_and, decide_eq_true_eq]
  exact decide_eq_true (Nat.le_trans (Nat.succ_le_succ this) (show 2 ≤ 64 by omega))
theorem sh_numssT (l : List (List Int)) : SeqAt.shaped (.tuple (l.map pNums)) = true := by
  have := dep_numss l
  simp only [SeqAt.shaped, PyData.canLay0, lay_numss, PyData.depth, Bool.true_and, decide_eq_true_eq]
  exact decide_eq_true (Nat.le_trans (Nat.succ_le_succ this) (show 2 ≤ 64 by omega))
section
variable {ws : List Ce}
theorem py_numsW (s : List Int) : toPy ws (dNums s) = some (pNums s) := (show toPy ws (dNums s) = toPy0 (dNums s) from rfl).trans (py_nums s)
theorem py_lstW (l : List (List Int)) : toPy ws (.lst (l.map dNums)) = some (.list (l.map pNums)) := by simp only [toPy, toPy0, py_numss, Option.map_some]
theorem py_tupW (l : List (List Int)) : toPy ws (.tup (l.map dNums)) = some (.tuple (l.map pNums)) := by simp only [toPy, toPy0, py_numss, Option.map_some]
theorem py_celW {l : List (List Int)} {p : Nat} (h : ws[p]? = some (.lst (l.map dNums))) : toPy ws (.cell p) = some (.list (l.map pNums)) := by simp only [toPy, h, py_numss, Option.map_some]
theorem ne_ints (S T : List Int) : fNeD ws (.lst (S.map .int)) (.lst (T.map .int)) = some (.bl (!decide (S = T))) := by
  simp only [fNeD, toPy, toPy0, py_ints, Option.map_some, Option.bind_some, sh_ints, Bool.and_self, if_true, PyData.eqv, eqv_ints]
theorem ne_nil_ints (S : List Int) : fNeD ws (.lst (S.map .int)) (.lst []) = some (.bl (!decide (S = []))) := ne_ints S []
theorem ne_nums (s t : List Int) : fNeD ws (dNums s) (dNums t) = some (.bl (!decide (s = t))) := by
  simp only [fNeD, py_numsW, Option.bind_some, sh_nums, Bool.and_self, if_true, eqv_nums]
theorem ne_numss (k l : List (List Int)) : fNeD ws (.lst (k.map dNums)) (.lst (l.map dNums)) = some (.bl (!decide (k = l))) := by
  simp only [fNeD, toPy, toPy0, py_numss, Option.map_some, Option.bind_some, sh_numss, Bool.and_self, if_true, PyData.eqv, eqv_numss]
theorem ne_nil_numss (k : List (List Int)) : fNeD ws (.lst (k.map dNums)) (.lst []) = some (.bl (!decide (k = []))) := ne_numss k []
theorem eq_numssT (k l : List (List Int)) : fEqD ws (.tup (k.map dNums)) (.tup (l.map dNums)) = some (.bl (decide (k = l))) := by
  simp only [fEqD, toPy, toPy0, py_numss, Option.map_some, Option.bind_some, sh_numssT, Bool.and_self, if_true, PyData.eqv, eqv_numss]
theorem in_numss (s : List Int) (l : List (List Int)) : fInD ws (dNums s) (.lst (l.map dNums)) = some (.bl (decide (s ∈ l))) := by
  simp only [fInD, py_numsW, py_lstW, py_tupW, Option.bind_some, sh_nums, sh_numss, Bool.and_self, if_true, any_numss]
theorem in_numssC (s : List Int) (l : List (List Int)) {p : Nat} (h : ws[p]? = some (.lst (l.map dNums))) : fInD ws (dNums s) (.cell p) = some (.bl (decide (s ∈ l))) := by
  simp only [fInD, py_numsW, py_celW h, Option.bind_some, sh_nums, sh_numss, Bool.and_self, if_true, any_numss]
theorem notIn_numssC (s : List Int) (l : List (List Int)) {p : Nat} (h : ws[p]? = some (.lst (l.map dNums))) : fNotInD ws (dNums s) (.cell p) = some (.bl (!decide (s ∈ l))) := by
  simp only [fNotInD, py_numsW, py_celW h, Option.bind_some, sh_nums, sh_numss, Bool.and_self, if_true, any_numss]
theorem inT_numss (neg : Bool) (s : List Int) (l : List (List Int)) : fInT neg ws (dNums s) (.tup (l.map dNums)) = some (.bl (if neg then !decide (s ∈ l) else decide (s ∈ l))) := by
  simp only [fInT, py_numsW, py_lstW, py_tupW, Option.bind_some, sh_nums, sh_numssT, Bool.and_self, if_true, any_numss]
end
end RL
set_option Elab.async false
set_option linter.all false
set_option maxRecDepth 100000
set_option maxHeartbeats 1000000
/-! RL20: an own exception class whose own making begins with super().__init__(..). -/
namespace RL
open PySem PySem.Spec PyProof.Rows L2
abbrev supEnv (qual : Str) (scope : Scope) (L f : Addr) (cd : Value) (cc : Addr) : Env := PySem.W.ksEnv qual scope L f cd cc
/-- the context of such a def's body -/
def supCx (P : Program) (w : World) (K : PySem.W.Frag) (mg : Str → Option Value) (base : Heap) (N : List Str) (qual : Str) (scope : Scope) (f : Addr) (cd : Value) (cc : Addr) (A : Around) (outer : List Env) (s : Shared) (H : Hp) : Cx where
  prog := P
  w := w
  K := K
  mg := mg
  base := base
  A := A.deeper (supEnv qual scope s.heap.objs.size f cd cc)
  N := N
  s_0 := s
  H_0 := H
  env := supEnv qual scope s.heap.objs.size f cd cc
  outer := outer
  stack := supEnv qual scope s.heap.objs.size f cd cc :: outer
  ex := []
  fn := fun _ => false
  calm := true
  pn := []
  xe := fun _ _ => False
theorem zip_lookup {α : Type} : ∀ {ps : List Str} {us : List α} {i : Nat} {y : Str} {u : α}, ps.Nodup → ps[i]? = some y → us[i]? = some u → (ps.zip us).reverse.lookup y = some u
  | [], _, i, _, _, _, h, _ => by simp at h
  | _ :: _, [], i, _, _, _, _, h => by simp at h
  | p :: ps, a :: us, 0, y, u, nd, h1, h2 => by
    simp only [List.getElem?_cons_zero, Option.some.injEq] at h1 h2
    subst h1 h2
    rw [List.zip_cons_cons, List.reverse_cons, List.lookup_append]
    have : (ps.zip us).reverse.lookup p = none := by
      rw [List.lookup_eq_none_iff]
      intro q hq
      rw [List.mem_reverse] at hq
      have := (List.of_mem_zip hq).1
      have nd := (List.nodup_cons.mp nd).1
      refine bne_iff_ne.mpr fun z => nd ?_
      rw [z]
      exact this
    rw [this]
    simp
  | p :: ps, a :: us, i + 1, y, u, nd, h1, h2 => by
    simp only [List.getElem?_cons_succ] at h1 h2
    rw [List.zip_cons_cons, List.reverse_cons, List.lookup_append, zip_lookup (List.nodup_cons.mp nd).2 h1 h2]
    rfl
/-- what the written part says of such a class at C and its making's def at f -/
structure SupF (P : Program) (K : PySem.W.Frag) (C f : Addr) (qual : Str) (params : Arguments) (body : List Stmt) (scope : Scope) (fd : FuncData) : Prop where
  ex : ∃ (oc : Value) (od : Option Addr) (kV doc pm : Value) (an : Option Addr) (cda : Addr) (ct : Value) (osl : Array (Option Value)) (cc : Addr) (cl : Value) (cld : Option Addr) (csl : Array (Option Value)) (ccl : Value) (cdd : Option Addr) (vs : Array Value) (ccs : Array (Option Value)) (file : Str) (tf : Tok),
    fd = PySem.W.ksFn "__init__" qual params body scope .none kV doc pm an (.ref cda) ct cc ∧ K.lookup f = some ⟨oc, od, .func fd, osl⟩ ∧ PySem.W.codeIn K (.ref cda) qual = true ∧ K.lookup cc = some ⟨cl, cld, .cell (some (.ref C)), csl⟩ ∧
      K.lookup cda = some ⟨ccl, cdd, .fields vs, ccs⟩ ∧ vs[2]? = some (.str file tf) ∧ ((P.main.file : Str) == file) = true
  ox : OexC K C
  sup : PySem.W.ks_superIn K C C "__init__" = some (some (.builtin "ValueError.__init__"))
  sub : PySem.W.subIn K (.ref C) (.type "ValueError") = some true
  mro : PySem.W.mroIn K C (.ref C) = some true
  opq : PySem.W.nsIn K cStatics "thirdparty.any" = some none
  top : (P.main.scope.names.lookup ("super" : Str)).isSome = false
/-- its scope: parameters alone, super and the class -/
structure SupS (ps : List Str) (sc : Scope) : Prop where
  kind : sc.kind = .function
  co : sc.isCoroutine = false
  gen : sc.isGenerator = false
  nd : ps.Nodup
  par : ∀ x ∈ ps, sc.names.lookup x = some .local
  own : ∀ y ∈ sc.names, y.2 ≠ .cell ∧ (y.2 = .free → y.1 = "__class__")
  sup : sc.names.lookup ("super" : Str) = some .globalImplicit
  cls : sc.names.lookup ("__class__" : Str) = some .free
section
variable {P : Program} {w : World} {K : PySem.W.Frag} {mg : Str → Option Value} {base : Heap} {ps : List Str} {qual : Str} {scope : Scope} {f cc C : Addr} {cd : Value} {A : Around} {outer : List Env} {s : Shared} {H : Hp} {us : List Value} {vs : List V}
theorem sup_start (S : SupS ps scope) (hd : A.handled = none) (e0 : Env0 P w K mg base A outer s H) {cl : Value} {cld : Option Addr} {csl : Array (Option Value)} (hc : K.lookup cc = some ⟨cl, cld, .cell (some (.ref C)), csl⟩) (hl : vs.length = ps.length) (r : Vals vs us) {h1 : Heap} {tk : Nat}
    (hns : h1.Ns s.heap.objs.size fun x => (ps.zip us).reverse.lookup x) (kp : ∀ b o, s.heap.get? b = some o → h1.get? b = some o) : Inv (supCx P w K mg base ps qual scope f cd cc A outer s H) [] (vs.map some) H { s with heap := h1, toks := tk } := by
  have noA : ∀ b : Addr, b ∉ (supCx P w K mg base ps qual scope f cd cc A outer s H).ex := fun b z => absurd (show b ∈ ([] : List Addr) from z) (by simp)
  have cell : ∀ {y c}, ([("__class__", cc)] : List (Str × Addr)).lookup y = some c → y = "__class__" ∧ c = cc := fun {y c} e => by
    rw [List.lookup_cons] at e
    split at e
    · rename_i q
      exact ⟨beq_iff_eq.mp q, (Option.some.inj e).symm⟩
    · cases e
  have kbase := e0.mod.kin _ _ hc
  obtain ⟨k1, k2⟩ := e0.bs _ _ kbase
  refine ⟨⟨e0.mod, S.kind, rfl, rfl, Nat.le_refl _, fun y z c e1 e2 => (cell e1).1.trans (cell e2).1.symm, fun y hy => ?_, fun y c z _ => ?_, fun _ => hd, Around.frames_deeper e0.frames, .inr ⟨rfl, rfl⟩, fun b z => absurd z (noA b), e0.bs, e0.bsz, fun b _ _ => noA b,
      fun b z => absurd z (noA b), e0.funs, e0.frf⟩,
    rfl, e0.bare, Un.kept kp, ⟨_, hns, fun i y v e1 e2 e3 => ?_⟩, fun y c e => ?_, e0.hok.fresh (Nat.le_refl _), fun y c e => ?_, fun q hq => absurd (show q ∈ ([] : List (Addr × Obj)) ++ [] from hq) (by simp), e0.hok.kept kp, by rw [List.length_map]; exact hl⟩
  · have hy : scope.names.lookup y = some .cell ∨ scope.names.lookup y = some .free := hy
    rcases hy with hy | hy
    · exact absurd rfl (S.own _ (PySem.mem_of_lookup hy)).1
    · have := (S.own _ (PySem.mem_of_lookup hy)).2 rfl
      exact ⟨cc, by rw [show y = "__class__" from this]; rfl⟩
  · have z : false = true := z
    cases z
  · have ha : vs[i]? = some v := by
      rw [List.getElem?_map] at e2
      cases e : vs[i]? with
      | none => rw [e] at e2; cases e2
      | some a => rw [e] at e2; cases e2; rfl
    obtain ⟨u, hu, rv⟩ := r.get ha
    have hp : ps[i]? = some y := e1
    exact ⟨u, rv, .inl ⟨S.par y (List.mem_of_getElem? hp), zip_lookup S.nd hp hu⟩⟩
  · obtain ⟨_, e⟩ := cell e
    subst e
    exact ⟨_, _, kp _ _ k1, rfl⟩
  · obtain ⟨_, e⟩ := cell e
    subst e
    exact k2
theorem sup_args {X : Cx} {pins : List (Addr × Obj)} {σ : L2.St} {u x : Addr} {i : String} {es : List Expr} {e : Expr} {pos : Pos} {ta : TA} {Q : Value → Shared → Prop} {E : Value → Shared → Prop} {H : Hp} {s : Shared} (ha : PA X (e :: es) ta) (I : Inv X ((u, PySem.W.kxs_mw i x) :: pins) σ H s)
    (hE : ∀ er s', X.xe er s' → E er s')
    (h : ta σ H fun vs H1 => ∀ s1 us, Vals vs us → Inv X ((u, PySem.W.kxs_mw i x) :: pins) σ H1 s1 → wpAny (model X.prog X.w) X.A (call (.ref u) us) Q E s1)
    (he : starEach (e :: es) X.env = (false, eval e X.env) :: starEach es X.env := by rfl) (hpl : (backTo pos (starEach es X.env)).any (·.1) = false := by rfl) :
    wpAny (model X.prog X.w) X.A (callWith pos (.ref u) [] (backTo pos (starEach (e :: es) X.env)) []) Q E s := by
  have h2 := ha.run pos _ s σ H _ I h
  rw [he] at h2 ⊢
  refine PySem.W.kxs_callWith (i := i) (x := x) (by show (false || (backTo pos (starEach es X.env)).any (·.1)) = false; rw [hpl]; rfl) (PySem.Calls.evalArgs_plain (wpAny_mono h2 (fun us s1 z => ?_) hE))
  obtain ⟨vs, H1, I1, r1, q⟩ := z
  exact ⟨(I1.pin _ (List.mem_append_right _ List.mem_cons_self)).1, q s1 us r1 I1⟩
/-- super().__init__(..) called -/
theorem sup_call {X : Cx} {pins : List (Addr × Obj)} {σ : L2.St} {H : Hp} {s : Shared} {u a C : Addr} {us : List Value} {Q : Value → Shared → Prop} {E : Value → Shared → Prop} (T : OexC X.K C) (I : Inv X ((u, PySem.W.kxs_mw "ValueError.__init__" a) :: pins) σ H s) (e : H a = some (exo a C none)) (hl : us.length ≤ sizeLine)
    (h : ∀ s', Inv X pins σ H s' → Q .none s') : wpAny (model X.prog X.w) X.A (call (.ref u) us) Q E s := by
  obtain ⟨nm, q, N, bs, bm, sn, sub, ab, col, dd, k0, k1, k2, k3, k5, hC, hbm⟩ := T.cls
  have hu := (I.pin _ (List.mem_append_right _ List.mem_cons_self)).1
  obtain ⟨t1, ho⟩ := exo_at I.hok e
  have kin := I.kIn
  have I0 : Inv X pins σ H s := I.pins_of fun p hp => I.pin p (List.mem_append_right _ (List.mem_cons_of_mem _ hp))
  obtain ⟨hp, g, d, t, os⟩ := s
  refine wpAny_call (codeAny_of_tree ?_)
  show wpAny _ X.A.in1 (callAny (.ref u) ⟨us, []⟩) _ _ _
  simp only [callAny]
  refine wpAny_bind (wpAny_load hu ?_)
  simp only [PySem.W.kxs_mw, show (Value.type "method-wrapper" == Value.type "method" || Value.type "method-wrapper" == Value.type "builtin_function_or_method" || Value.type "method-wrapper" == Value.type "method-wrapper") = true by decide, if_true]
  refine PySem.W.KFB.if_so (by decide) ?_
  refine wpAny_bind (PySem.W.check_bound_init PySem.F.excBase_ValueError.toExcCallFacts (kin _ _ hC) ho rfl ?_)
  refine wpAny_bind (wpAny_pure (wpAny_pure ?_))
  refine ⟨plainId_quiet PySem.F.excBase_ValueError.init.plain _, codeAny_builtin PySem.F.excBase_ValueError.initEntry ?_⟩
  refine PySem.W.exc_init_tree (cls := .ref C) (t0 := t1) (dv := none) (c2 := .none) (c3 := .none) (b4 := .bool false) ho hl fun h' k hx _ => ?_
  have J := I0.write (t' := t) (x := a) (e := a) (o := exo a C none) (by rw [e]; exact True.intro) (.inl rfl) k ⟨_, hx⟩ (exo_ok hx)
  have eu : upd H a (exo a C none) = H := by
    funext b
    by_cases hb : b = a
    · rw [hb, upd_same, e]
    · rw [upd_ne hb]
  rw [eu] at J
  exact h _ J
/-- how the call of super().__init__ is evaluated -/
def EvSup (qual : Str) (scope : Scope) (f : Addr) (p0 p1 ap cp : Pos) (es : List Expr) : Prop := ∀ (cda cc L : Addr), ∃ pl : Sem Bool, eval (.Call (.Attribute (.Call (.Name "super" p0) [] [] p1) "__init__" ap) es [] cp) (supEnv qual scope L f (.ref cda) cc) = (do
      let ov ← attributeBase (.Call (.Name "super" p0) [] [] p1) "__init__" (supEnv qual scope L f (.ref cda) cc) (eval (.Call (.Name "super" p0) [] [] p1) (supEnv qual scope L f (.ref cda) cc))
      standAt ap.atName
      let (g, first) ← holding [ov] (getMethod ov "__init__" pl)
      callWith cp g first (backTo cp (starEach es (supEnv qual scope L f (.ref cda) cc))) [])
/-- THE RULE: the def whose body is super().__init__(..), then what rest tells -/
theorem sup_fn {CX : CXT} {k : Nat} {params : Arguments} {rest : List Stmt} {p0 p1 ap cp pE : Pos} {e : Expr} {es : List Expr} {x0 : Str} {ps' : List Str} {fd : FuncData} {body : List Stmt} {sp : Sp} (S : SupS (x0 :: ps') scope)
    (hbo : body = .Expr (.Call (.Attribute (.Call (.Name "super" p0) [] [] p1) "__init__" ap) (e :: es) [] cp) pE :: rest) (F : SupF P K C f qual params body scope fd) (hpar : ∃ ar, (params.posonlyargs ++ params.args).head? = some ar ∧ ar.arg = x0) (hmg : mg "super" = none)
    (len : ∀ vs H Q E, sp vs H Q E → vs.length = (x0 :: ps').length)
    (hsp : ∀ (cda cc : Addr) (A : Around) (outer : List Env) (s : Shared) (H : Hp) (vs : List V) (Q : VK) (E : XK), Room k (A.deeper (supEnv qual scope s.heap.objs.size f (.ref cda) cc)) → sp vs H Q E →
      ∃ a ta t, vs[0]? = some (.ref a) ∧ H a = some (exo a C none) ∧ PA (supCx P w K mg base (x0 :: ps') qual scope f (.ref cda) cc A outer s H) (e :: es) ta ∧ PSs (supCx P w K mg base (x0 :: ps') qual scope f (.ref cda) cc A outer s H) rest t ∧
        ∀ Qa : List V → Hp → Prop, (∀ us H1, us.length ≤ 1000 → H1 a = some (exo a C none) → t { nx := fun _ H' => Q .non H', rt := Q } (vs.map some) H1 → Qa us H1) → ta (vs.map some) H Qa)
    (he : ∀ (cda cc L : Addr), starEach (e :: es) (supEnv qual scope L f (.ref cda) cc) = (false, eval e (supEnv qual scope L f (.ref cda) cc)) :: starEach es (supEnv qual scope L f (.ref cda) cc) := by intros; rfl)
    (hev : EvSup qual scope f p0 p1 ap cp (e :: es) := by exact fun _ _ _ => ⟨_, rfl⟩)
    (hpl : ∀ (cda cc L : Addr), (backTo cp (starEach es (supEnv qual scope L f (.ref cda) cc))).any (·.1) = false := by intros; rfl) :
    FnOk P w K mg base CX (k + 1) f fd (x0 :: ps') sp := by
  obtain ⟨oc, od, kV, doc, pm, an, cda, ct, osl, cc, cl, cld, csl, ccl, cdd, cvs, ccs, file, tf, rfl, lk, hcd, hcc, hcode, hv2, hfile⟩ := F.ex
  refine ⟨len, fun A outer s H args us vs Q E hr e0 hb r hq => ?_⟩
  have hl := len _ _ _ _ hq
  have KX : K.In s.heap := e0.mod.kin.keeps fun b o z => (e0.bs b o z).1
  have lim : s.heap.NoLimit := e0.mod.nolimit.keeps fun b o z => (e0.bs b o z).1
  refine ks_codeAny_call_defAt (fd := PySem.W.ksFn "__init__" qual params body scope .none kV doc pm an (.ref cda) ct cc) (body := body) (binds := (x0 :: ps').zip us) hr.depth (KX _ _ lk) rfl lim (PySem.W.codeRec_of KX hcd) rfl hb (fun y hy => (S.own y hy).1)
    (fun y hy => S.par _ (List.of_mem_zip hy).1) (fun h1 hns kp => ?_) S.co S.gen S.kind
  obtain ⟨a, ta, t, hv0, ha0, hpa, hps, hta⟩ := hsp cda cc A outer s H vs Q E (hr.deeper _) hq
  have I := sup_start (qual := qual) (f := f) (cd := .ref cda) (tk := s.toks + ((x0 :: ps').zip us).length) S hr.hd e0 hcc hl r hns kp
  obtain ⟨nm, q, N, bs, bm, sn, sub, ab, col, dd, k0, k1, k2, k3, k5, hC, hbm⟩ := F.ox.cls
  have hcl : PySem.W.clsIn K C = some { name := nm, bases := bs, mro := .ref C :: bm, ns := N, qualname := q, hasDict := true, slotNames := sn, subclasses := sub, abstract := ab, collection := col, hasDel := false } := by unfold PySem.W.clsIn; rw [hC] <;> rfl
  have K1 : K.In h1 := KX.keeps kp
  obtain ⟨t1, hoa⟩ := exo_at I.hok ha0
  have n1 : h1.Ns mainGlobals mg := (e0.mod.glob.keeps fun b o z => (e0.bs b o z).1).keeps kp
  obtain ⟨mb, n2, n3⟩ := e0.mod.blt
  have n2 : h1.Ns builtinsNs mb := (n2.keeps fun b o z => (e0.bs b o z).1).keeps kp
  subst hbo
  obtain ⟨ar, hp1, hp2⟩ := hpar
  subst hp2
  obtain ⟨u0, hu0, rv0⟩ := r.get hv0
  obtain rfl : u0 = Value.ref a := rv0
  have hslf : ((ar.arg :: ps').zip us).reverse.lookup ar.arg = some (.ref a) := zip_lookup (i := 0) S.nd rfl hu0
  have hCo := K1 _ _ hC
  have hi : interactive (supEnv qual scope s.heap.objs.size f (.ref cda) cc) = false := by
    unfold interactive
    simp [S.kind]
  obtain ⟨pl, hev'⟩ := hev cda cc s.heap.objs.size
  refine ks_wpAt_execs_cons (ks_wpAt_Expr_any (ks_wpAt_MethodCall ?_ hev') hi)
  · refine ks_wpAt_super_base (env := supEnv qual scope s.heap.objs.size f (.ref cda) cc) S.sup S.cls rfl rfl (kp _ _ (KX _ _ lk)) rfl hp1 rfl (K1 _ _ hcode) rfl hv2 hfile F.top ?_
    refine PySem.W.ks_loadName_global S.kind S.sup (PySem.Calls.loadGlobal_builtin (env := supEnv qual scope s.heap.objs.size f (.ref cda) cc) n1 hmg n2 ((n3 _ (by decide +kernel)).trans (show bootBuiltins "super" = some (.type "super") by kernel_rfl)) ⟨rfl, ?_⟩)
    refine wpAny_loadName_free S.kind S.cls rfl ⟨_, K1 _ _ hcc, rfl⟩ ?_
    refine wpAny_loadName_local S.kind (S.par _ List.mem_cons_self) hns hslf ?_
    refine ks_wpAny_isType_cls hCo rfl ⟨rfl, ?_⟩
    refine ks_wpAny_call_super hCo rfl hoa rfl (fun c z => nomatch z) (PySem.W.looks_mroIn K1 F.mro) (fun h2 eo k2 => ?_)
    have I2 := I.kept (h' := h2) (t' := s.toks + ((ar.arg :: ps').zip us).length) k2
    have K2 : K.In h2 := K1.keeps k2
    have J2 : PySem.W.InstAt h2 a _ C none := ⟨k2 _ _ hoa, rfl, rfl, trivial⟩
    have hsup : PySem.W.alongIn K "__init__" (((Value.ref C :: bm).dropWhile (· != .ref C)).drop 1) = some (some (.builtin "ValueError.__init__")) := by
      have z := F.sup
      unfold PySem.W.ks_superIn at z
      rw [hcl] at z
      exact z
    refine PySem.W.kxs_getMethod PySem.W.kxs_ValueError eo (PySem.W.looks_opaque K2 F.opq) (l₀ := .ref C :: bm) (fun A Q E s k q => wpAny_bind ((PySem.W.looks_clsIn K2 hcl) A _ E s k (wpAny_pure q))) rfl K2 hsup (J2.type.andThen (PySem.W.looks_subIn K2 F.sub)) (PySem.W.ks_ne K2 J2 hcl) rfl ?_
    have I3 : Inv (supCx P w K mg base (ar.arg :: ps') qual scope f (.ref cda) cc A outer s H) [(h2.objs.size, PySem.W.kxs_mw "ValueError.__init__" a)] (vs.map some) H ⟨h2.push (PySem.W.kxs_mw "ValueError.__init__" a), s.gens, s.drawn, s.toks + ((ar.arg :: ps').zip us).length + 1, s.os⟩ :=
      (I2.kept (h' := h2.push (PySem.W.kxs_mw "ValueError.__init__" a)) (t' := s.toks + ((ar.arg :: ps').zip us).length + 1) fun b u z => Heap.get?_push_of_some _ z).pins_of fun p hp => by
        rw [List.mem_singleton] at hp
        subst hp
        exact ⟨Heap.get?_push_at rfl rfl, I2.hok.fresh (Nat.le_refl _), Nat.ne_of_gt I2.lt, I2.nofs (Nat.le_refl _), fun v z => nomatch z⟩
    refine sup_args hpa I3 (fun er s' z => z.elim) (hta _ fun as H1 hlen hex ht s1 ws rw' I4 => ?_) (he ..) (hpl ..)
    refine sup_call F.ox I4 hex (by rw [← rw'.length, sizeLine_eq]; omega) fun s2 I5 => ?_
    refine wpAt_of_wpAny (wpAny_mono (hps.run [] s2 _ H1 _ I5 ht) (fun fl s3 z => ?_) fun _ _ z => z.elim)
    have fin : ∀ {σ' : L2.St} {H' : Hp} {v : V} {u : Value}, Inv (supCx P w K mg base (ar.arg :: ps') qual scope f (.ref cda) cc A outer s H) [] σ' H' s3 → L2.RelV v u → Q v H' → CE outer P w H s Q u s3 :=
      fun {σ' H' v u} J rv q => ⟨v, H', J.os, J.bare, J.base, J.hok, rv, q⟩
    cases fl with
    | ret u =>
      obtain ⟨v, σ', H', J, rv, q⟩ := z
      exact fin J rv q
    | next =>
      obtain ⟨σ', H', J, q⟩ := z
      exact fin (v := V.non) (u := Value.none) J rfl q
    | brk =>
      obtain ⟨_, _, _, q⟩ := z
      exact False.elim q
    | cont =>
      obtain ⟨_, _, _, q⟩ := z
      exact False.elim q
end
end RL
set_option Elab.async false
set_option linter.all false
set_option maxRecDepth 100000
set_option maxHeartbeats 2000000
/-! RL21: try: .. except X as n: caught = n, the exception known behind it. -/
namespace RL
open PySem PySem.Spec PyProof.Rows L2
section
variable {X : Cx} {pins : List (Addr × Obj)} {σ : L2.St} {H : Hp} {s : Shared}
theorem exH_ok {P : Program} {w : World} {H : Hp} {h : Heap} {a : Addr} {cls : Value} {dd : Option Addr} {oe : Obj} {vs : Array Value} (e : h.get? a = some oe) (z : Zc cls dd oe) (d : oe.data = .fields vs) : ObjOk P w H h a (ExH cls dd a) :=
  ⟨⟨oe, vs, e, z, d⟩, ⟨_, e⟩, fun h1 h2 ⟨o, us, f1, f2, f3⟩ k => ⟨o, us, k o f1, f2, f3⟩⟩
/-- a pinned exception of our own is tracked from now on -/
theorem inv_track {a : Addr} {oe : Obj} {cls : Value} {dd : Option Addr} {vs : Array Value} (I : Inv X ((a, oe) :: pins) σ H s) (hz : Zc cls dd oe) (hd : oe.data = .fields vs) (h0 : X.s_0.heap.get? a = none) (hp : ∀ p ∈ X.pn ++ pins, p.1 ≠ a) : Inv X pins σ (upd H a (ExH cls dd a)) s := by
  obtain ⟨p1, p2, p3, p4, p5⟩ := I.pin (a, oe) (List.mem_append_right _ List.mem_cons_self)
  have hn : H a = none := p2
  have ha : s.heap.get? a = some oe := p1
  have nc : ∀ x c, X.env.cells.lookup x = some c → c ≠ a := fun x c e z => by
    obtain ⟨v, o, f1, f2⟩ := I.cell x c e
    rw [z, ha] at f1
    cases f1
    rw [hd] at f2
    cases f2
  refine ⟨I.ok, I.os, I.bare, ⟨I.base.keep, I.base.slot, fun b o e n hx => ?_, I.base.there, fun b xs e => ?_, fun b o v e => ?_, fun b ps e => ?_⟩, I.loc, I.cell, ?_, fun x c e => ?_, fun p q => ?_, I.hok.laidN (fun b u e => e) hn (exH_ok ha hz hd), I.len⟩
  · rw [upd_ne (fun z => by rw [z, h0] at e; cases e)]
    exact I.base.free b o e n hx
  · have q := I.base.tups b xs e
    rw [upd_ne (fun z => by rw [z, hn] at q; cases q)]
    exact q
  · have q := I.base.frzs b o v e
    rw [upd_ne (fun z => by rw [z, hn] at q; cases q)]
    exact q
  · obtain ⟨more, q⟩ := I.base.tbls b ps e
    exact ⟨more, by rw [upd_ne (fun z => by rw [z, hn] at q; cases q)]; exact q⟩
  · rw [upd_ne (Ne.symm p3)]
    exact I.free
  · rw [upd_ne (nc x c e)]
    exact I.freeC x c e
  · obtain ⟨q1, q2, q3⟩ := I.pin p ((List.mem_append.mp q).elim (fun z => List.mem_append_left _ z) fun z => List.mem_append_right _ (List.mem_cons_of_mem _ z))
    exact ⟨q1, by rw [upd_ne (hp p q)]; exact q2, q3⟩
/-- what the clause wishes: n's slot i, the kept one's slot j -/
def wKeep (K : PySem.W.Frag) (c : Value) (i j : Nat) (D : Ends) (Wout : WX) : WX := fun cls d σ H =>
  ∃ b, PySem.W.exmOne K cls c = some b ∧ (b = true → ∀ a, H a = none → D.nx (((σ.set i (some (.ref a))).set j (some (.ref a))).set i none) (upd H a (ExH cls d a))) ∧ (b = false → Wout cls d σ H)
variable {x n m : Str} {c : Value} {i j : Nat} {body : List Stmt} {np p1 p2 p3 pos pos' : Pos} {tb : WX → TS} {Wout : WX}
theorem ps_try_keep (hs : X.stack = X.env :: X.outer) (hf : X.env.frame = some X.env.locals) (hex : X.ex = []) (hN : X.N.Nodup) (hi : X.N[i]? = some n) (hj : X.N[j]? = some m) (hij : i ≠ j) (hln : X.env.kindOf n = some .local) (hlm : X.env.kindOf m = some .local) (hc : Names X x c) (tk : Takes X Wout)
    (hb : ∀ (W : WX) (pn : List (Addr × Obj)) (xe : Value → Shared → Prop), Takes (X.tr pn xe) W → PassesOwn (model X.prog X.w) X.A X.env xe → PSs (X.tr pn xe) body (tb W))
    (hsw : swapsWith (.Name n p2) (some (.Name m p1)) p3.line X.env = pure false := by rfl) (hdn : (n == ("__debug__" : Str)) = false := by decide) (hcn : (n == ("__classdict__" : Str)) = false := by decide) :
    PS X (.Try body [.ExceptHandler (some (.Name x np)) (some n) [.Assign [.Name m p1] (.Name n p2) p3] pos'] [] [] pos) (fun D σ H => tb (wKeep X.K c i j D Wout) D σ H) := by
  refine ⟨fun pins s σ H D I h => ?_⟩
  have ok := I.ok
  have hfr : X.A.frames = some (X.env :: X.outer) := by rw [ok.frames, hs]
  have hloc : Loc X.env.scope n := .inl hln
  refine wpAny_Try_except ?_
  refine wpAny_mono ((hb (wKeep X.K c i j D Wout) (X.pn ++ pins) (fun e s₁ => wpAny (model X.prog X.w) X.A (noteFrame e X.env) (fun _ s₂ => wpAny (model X.prog X.w) X.A (setFlight e none) (fun _ s₃ =>
    wpAny (model X.prog X.w) X.A (handleBy e X.env [.ExceptHandler (some (.Name x np)) (some n) [.Assign [.Name m p1] (.Name n p2) p3] pos']) (SP X pins D) X.xe s₃) X.xe s₂) X.xe s₁) (fun u s' xx => ?_) PassesOwn.looking).run [] s σ H D (I.toTry _) h) (fun f s1 hsp => ?_) (fun e s1 he => he)
  · obtain ⟨a, B, sI, pins', σ', H', cls, d, rfl, J', nb, up, sky, na, os, ag, b, hb1, hyes, hno⟩ := xx
    have J : Inv X pins σ' H' sI := J'.ofTry ok
    have sky' : Sky B (X.env :: X.outer) a (Zc cls d) X.env.locals s'.heap := by rw [← hs]; exact sky
    show wpAny _ X.A (noteFrame (.ref a) X.env) _ _ _
    refine Sky.land Zc.steady hfr hf sky' fun h3 fl3 up3 => ?_
    have J3 : Inv X pins σ' H' { s' with heap := h3 } := J.landed nb fl3.1 (up.trans up3) os ag
    obtain ⟨oe3, vs3, he3, hz3, hd3⟩ := fl3.there
    have notFr : ∀ {h : Heap} {o : Obj} {vs : Array Value}, h.FunFrames B (X.env :: X.outer) → h.get? a = some o → o.data = .fields vs → a ∉ frs (X.env :: X.outer) := fun {h o vs} ff e dd hm => by
      obtain ⟨_, o', e', hnf⟩ := ff.mem hm
      rw [e] at e'; cases e'
      exact hnf _ dd
    have nfr := notFr fl3.2.2.1 he3 hd3
    have nL : a ≠ X.env.locals := fun z => nfr (List.mem_filterMap.mpr ⟨X.env, List.mem_cons_self, by rw [hf, z]⟩)
    have nF : a ∉ X.fs := fun hm => by
      obtain ⟨e, he, q⟩ := List.mem_filterMap.mp hm
      exact nfr (List.mem_filterMap.mpr ⟨e, List.mem_cons_of_mem _ he, q⟩)
    have gB : B.get? a = none := fl3.2.1
    have hB : ∀ {b : Addr} {o : Obj}, sI.heap.get? b = some o → b ∉ frs (X.env :: X.outer) → b ≠ a := fun {b o} e nf z => by
      have q := nb b o e (by rw [hs]; exact nf)
      rw [z, gB] at q
      cases q
    have h0 : X.s_0.heap.get? a = none := by
      cases q : X.s_0.heap.get? a with
      | none => rfl
      | some o =>
        obtain ⟨o', q2⟩ := J.base.there a o q (by rw [hex]; simp)
        exact absurd rfl (hB q2 nfr)
    have hpa : ∀ p ∈ X.pn ++ pins, p.1 ≠ a := fun p hp => by
      obtain ⟨q1, _, q3, q4, _⟩ := J.pin p hp
      refine hB q1 fun hm => ?_
      obtain ⟨e, he, q⟩ := List.mem_filterMap.mp hm
      rcases List.mem_cons.mp he with z | z
      · subst z
        rw [hf] at q
        exact q3 (Option.some.inj q).symm
      · exact q4 (List.mem_filterMap.mpr ⟨e, z, q⟩)
    have S3 := J3.suite he3 hd3 na nL nF
    refine wpAny_handleBy_cons (codeAny_handlers_test ?_) (by intro q; cases q)
    have LT : PySem.W.Looks (model X.prog X.w) h3 (typeOf (.ref a)) cls := fun A Q E s k q => wpAny_typeOf_ref (k _ _ he3) (by rw [hz3.1]; exact q)
    have LM := PySem.W.exm_one (M := model X.prog X.w) (J3.kIn) LT hb1
    have test : ∀ {Q : Value → Shared → Prop} {E : Value → Shared → Prop}, Q c { s' with heap := h3 } → wpAny (model X.prog X.w) (X.A.mark (some (.ref a))) (eval (.Name x np) X.env) Q E { s' with heap := h3 } := fun {Q E} q => by
      obtain ⟨hg, hdbg, hm | ⟨hm, hv, hnn⟩⟩ := hc
      · exact ld_glob (X := X.suite a ((a, oe3) :: (X.pn ++ pins))) S3 hg hm q hdbg
      · exact ld_blt (X := X.suite a ((a, oe3) :: (X.pn ++ pins))) S3 hg hm hv q hnn hdbg
    refine test (LM.here ?_)
    cases b with
    | true =>
      refine codeAny_handlers_suite_as ?_
      refine HandSPX.lands_againZ fl3 fun h4 fl4 up4 => ?_
      have J4 : Inv X pins σ' H' { s' with heap := h4 } := J.landed nb fl4.1 ((up.trans up3).trans up4) os ag
      obtain ⟨oe4, vs4, he4, hz4, hd4⟩ := fl4.there
      have S4 := J4.suite he4 hd4 na nL nF
      refine store_ok (X := X.suite a ((a, oe4) :: (X.pn ++ pins))) (v := .ref a) S4 hN hi hloc rfl (fun s5 S5 => ?_) (.inr hln)
      have hil : i < (σ'.set i (some (V.ref a))).length := by
        have q : (σ'.set i (some (V.ref a))).length = X.N.length := S5.len
        rw [q]
        exact (List.getElem?_eq_some_iff.mp hi).1
      have hst : PSs (X.suite a ((a, oe4) :: (X.pn ++ pins))) [.Assign [.Name m p1] (.Name n p2) p3] (tAsg (tVar i) (gName j)) :=
        pss_one (ps_set (i := j) hN hj (.inl hlm) (pe_var (i := i) hi (.inl hln) hdn hcn) hsw (.inr hlm))
      refine wpAny_mono (hst.run [] s5 _ H' { nx := fun σ6 H6 => σ6 = (σ'.set i (some (V.ref a))).set j (some (V.ref a)) ∧ H6 = H', rt := fun _ _ => False } S5 ⟨V.ref a, List.getElem?_set_self (by simpa using hil), rfl, rfl⟩) (fun f s6 hsp => ?_) (fun _ _ z => False.elim z)
      cases f with
      | next =>
        obtain ⟨σ6, H6, S6, e1, e2⟩ := hsp
        subst e1 e2
        have pinA := S6.pin (a, oe4) (by simp)
        have I6 : Inv X ((a, oe4) :: pins) ((σ'.set i (some (V.ref a))).set j (some (V.ref a))) H6 s6 := (S6.unsuite ok).pins_of fun p hp => by
          rcases List.mem_cons.mp hp with z | z
          · subst z
            exact pinA
          · exact (S6.unsuite ok).pin p (List.mem_append_right _ z)
        refine gone_ok I6 hN hi hln fun s7 J7 => ?_
        exact ⟨_, _, inv_track J7 hz4 hd4 h0 hpa, hyes rfl a na⟩
      | brk =>
        obtain ⟨_, _, _, q⟩ := hsp
        exact False.elim q
      | cont =>
        obtain ⟨_, _, _, q⟩ := hsp
        exact False.elim q
      | ret u =>
        obtain ⟨_, _, _, _, _, q⟩ := hsp
        exact False.elim q
    | false =>
      show wpAny _ X.A (handleBy (.ref a) X.env []) _ _ _
      refine wpAny_handleBy_nil ?_
      obtain ⟨k1, k2, k3, oe, vs, T, oT, ts', he, hz, hd, h1, hr⟩ := id fl3
      unfold PySem.passOn
      refine wpAny_bind (wpAny_field he hd h1 ?_)
      rw [if_neg (show ¬ ((Value.ref T == Value.none) = true) from by simp)]
      have fin : wpAny (model X.prog X.w) X.A (setFlight (.ref a) X.env.frame) (fun _ s4 => wpAny (model X.prog X.w) X.A (throw (.ref a) : Sem Flow) (SP X pins D) X.xe s4) X.xe { s' with heap := h3 } := by
        rw [hf]
        refine HandSPX.setFlight_upZ fl3 fun h4 hh4 up4 => wpAny_throw (tk _ _ ?_)
        exact ⟨a, B, sI, pins, σ', H', cls, d, rfl, J, nb, (up.trans up3).trans up4, .inr (.inr (by rw [hs]; exact hh4)), na, os, ag, hno rfl⟩
      first
        | exact wpAny_bind (wpAny_pure (wpAny_bind fin))
        | exact wpAny_bind fin
  · cases f with
    | next =>
      obtain ⟨σ', H', J', q⟩ := hsp
      exact wpAny_execs_nil ⟨σ', H', J'.ofTry ok, q⟩
    | brk =>
      obtain ⟨σ', H', J', q⟩ := hsp
      exact ⟨σ', H', J'.ofTry ok, q⟩
    | cont =>
      obtain ⟨σ', H', J', q⟩ := hsp
      exact ⟨σ', H', J'.ofTry ok, q⟩
    | ret u =>
      obtain ⟨v, σ', H', J', r, q⟩ := hsp
      exact ⟨v, σ', H', J'.ofTry ok, r, q⟩
end
end RL
set_option Elab.async false
set_option linter.all false
set_option maxRecDepth 100000
set_option maxHeartbeats 4000000
/-! RL22: isinstance and fields of a caught exception. -/
namespace RL
open PySem PySem.Spec PySem.Calls PySem.W PyProof.Rows L2
section
variable {prog : Program} {w : World} {A : Around} {E : Value → Shared → Prop} {s : Shared} {K : PySem.W.Frag} {x C : Addr} {ox : Obj} {od : Option Obj}
theorem exc_find (T : ExcC K C) : findObj K C od "__class__" = some (.bind (.builtin "getset_descriptor.__get__") (.builtin "object.__class__")) := by
  obtain ⟨cd, hc, _⟩ := any_some T.hd
  unfold findObj
  rw [hc, Option.bind_some, T.ha, Option.bind_some]
  simp [T.hn, T.ht]
theorem exc_class (T : ExcC K C) {Q : Option Value → Shared → Prop} (X : K.In s.heap) (I : InstAt s.heap x ox C od) (h : Q (some (.ref C)) { s with toks := s.toks + 1 }) : wpAny (model prog w) A (getAttr? (.ref x) "__class__") Q E s := by
  have hf := exc_find (od := od) T
  obtain ⟨hp, gs, dr, t, os⟩ := s
  have lt := I.type (M := model prog w)
  have la := looks_findIn (M := model prog w) X T.hg
  have lg := looks_findIn (M := model prog w) X T.hk
  have lf := looks_find (M := model prog w) X I hf
  have sub : Looks (model prog w) hp (isInstance (.ref x) (.type "BaseException")) true := lt.andThen (looks_subIn X T.hs)
  have n0 : (false && onTheHeap (Value.builtin "BaseException.__getattribute__")) = false := rfl
  have n1 : (onTheHeap (Value.ref C) && Value.builtin "BaseException.__getattribute__" == Value.builtin "object.__getattribute__") = false := by
    rw [show (Value.builtin "BaseException.__getattribute__" == Value.builtin "object.__getattribute__") = false by decide +kernel] <;> rfl
  unfold getAttr? getAttrBy? getAttrBy
  refine wpAny_bind (wpAny_mkText (wpAny_bind (wpAny_attempt (wpAny_holding (wpAny_bind (lt.at (wpAny_bind (la.at ?_))))))))
  show wpAny _ _ (if (onTheHeap (Value.ref C) && Value.builtin "BaseException.__getattribute__" == Value.builtin "object.__getattribute__") = true then _ else _) _ _ _
  rw [n1, if_neg Bool.false_ne_true]
  unfold getAttrByItsOwn hookBefore
  refine wpAny_bind ?_
  rw [if_pos (show onTheHeap (Value.ref C) = true from rfl)]
  refine lg.at (wpAny_bind (wpAny_attempt (wpAny_holding ?_)))
  unfold callGetattribute
  rw [n0, if_neg Bool.false_ne_true]
  unfold boundAndCalled
  rw [PySem.F.excAttr_ValueError.ga.bind (.ref x)]
  refine wpAny_bind (wpAny_pure ?_)
  show wpAny _ _ (call (.builtin "BaseException.__getattribute__") [.ref x, .str "__class__" t]) _ _ _
  refine wpAny_call (codeAny_call_builtin PySem.F.excAttr_ValueError.ga.plain PySem.F.entry_bexc_ga ?_)
  refine @check_slot (model prog w) _ _ ⟨hp, gs, dr, t + 1, os⟩ "BaseException.__getattribute__" "BaseException" "__getattribute__" (.ref x) [.str "__class__" t] [] _ (by decide +kernel) (by decide +kernel) sub (PySem.F.args_bexc_ga (.ref x) (.str "__class__" t)) ?_
  unfold Builtin.«object.__getattribute__»
  refine wpAny_bind (wpAny_of_eq (a := ((Value.ref x : Value), [Value.str "__class__" t])) (by first | rfl | (simp only [slotArgs]; rfl)) ?_)
  refine wpAny_bind (wpAny_pure (wpAny_bind (lt.at (wpAny_bind (lf.at ?_)))))
  show wpAny _ _ (holding [Value.builtin "object.__class__"] (call (.builtin "getset_descriptor.__get__") [.builtin "object.__class__", .ref x, .ref C]) >>= ret) _ _ _
  refine wpAny_bind (wpAny_holding (wpAny_call (class_get (s := ⟨hp, gs, dr, t + 1, os⟩) (ox := ox) (od := od) X I T.hm ?_)))
  refine wpAny_pure ?_
  show wpAny _ _ (handedOut (.ref C)) _ _ _
  rw [handedOut_of (v := .ref C) rfl]
  first
    | exact wpAny_pure (wpAny_pure h)
    | exact wpAny_pure h
    | exact wpAny_pure (wpAny_bind (wpAny_pure (wpAny_pure h)))
theorem exc_kit (T : ExcC K C) : KitX K (.ref x) (.ref C) (fun h => InstAt h x ox C od) where
  ty := fun _ _ _ I => I.type
  it := fun _ _ X _ => by
    obtain ⟨cdD, hcD, _⟩ := any_some T.hd
    unfold clsIn at hcD
    split at hcD
    · rename_i c' d' cd' sl' ho
      intro A' Q' E' s' k q
      unfold isType loadHead
      exact wpAny_bind (wpAny_loadPart (k _ _ (X _ _ ho)) (wpAny_pure q))
    · cases hcD
  ne := fun h tp dd its n sl X htp => by
    obtain ⟨cdD, hcD, _⟩ := any_some T.hd
    refine Bool.eq_false_iff.mpr fun q => ?_
    have e : C = tp := Value.ref.inj (beq_iff_eq.mp q)
    subst e
    unfold clsIn at hcD
    split at hcD
    · rename_i c' d' cd' sl' ho
      have z := (X _ _ ho).symm.trans htp
      cases z
    · cases hcD
  ca := fun X I k => exc_class T X I k
end
section
variable {K : PySem.W.Frag}
/-- the caught exception as it lies -/
theorem exc_inst {X : Cx} {pins : List (Addr × Obj)} {σ : L2.St} {H : Hp} {s : Shared} {a C : Addr} {dd : Option Addr} {ks : List Str} {vs : List V} (I : Inv X pins σ H s) (e : H a = some (ExH (.ref C) dd a)) (x : XdAt H dd ks vs) : ∃ ox od, InstAt s.heap a ox C od ∧ ∀ d, dd = some d → ∃ o, s.heap.get? d = some o ∧ od = some o := by
  obtain ⟨⟨oe, us, f1, f2, f3⟩, _⟩ := I.hok a _ e
  rcases x with ⟨e1, _⟩ | ⟨d, e1, e2⟩
  · subst e1
    exact ⟨oe, none, ⟨f1, f2.1, by unfold PySem.W.notCls; rw [f3] <;> rfl, by rw [f2.2]; trivial⟩, fun d z => nomatch z⟩
  · subst e1
    obtain ⟨mA, hns, hr⟩ := (show ObjOk X.prog X.w H s.heap d (.xd (ks.zip vs)) from I.hok d _ e2)
    obtain ⟨o, _, _, ho, _⟩ := id hns
    exact ⟨oe, some o, ⟨f1, f2.1, by unfold PySem.W.notCls; rw [f3] <;> rfl, by rw [f2.2]; exact ho⟩, fun d' z => by
      cases z
      exact ⟨o, ho, rfl⟩⟩
/-- isinstance(e, C), isinstance(e, (C1, C2)): by a table of the exceptions' classes -/
def rIsX (K : PySem.W.Frag) : List V → Hp → VK → Prop := fun xs H Q => ∃ (a C : Addr) (dd : Option Addr) (ks : List Str) (vs : List V) (y : V) (b : Bool), xs = [.ref a, y] ∧ H a = some (ExH (.ref C) dd a) ∧ XdAt H dd ks vs ∧ ExcC K C ∧ Q (.bl b) H ∧
  ((∃ c, y = .ref (He.ga K c) ∧ kitOne K (.ref C) (.ref (He.ga K c)) = some b) ∨ ∃ (tp : Addr) (cs : List Str), y = .ref tp ∧ H tp = some (.tup (cs.map fun c => .ref (He.ga K c))) ∧ kitAny K (.ref C) (cs.map fun c => .ref (He.ga K c)) = some b)
theorem vals_refs : ∀ {cs : List Addr} {us : List Value}, Vals (cs.map V.ref) us → us = cs.map Value.ref
  | [], us, h => by cases h; rfl
  | c :: cs, us, h => by
    cases h with
    | cons r t =>
      rw [vals_refs t]
      cases r
      rfl
theorem call_isX {X : Cx} : CallR X (.builtin "isinstance") (rIsX X.K) := by
  intro pins s σ H xs us Q I r h
  obtain ⟨a, C, dd, ks, vs, y, b, rfl, h1, h2, T, q, h3⟩ := h
  obtain ⟨u1, u2, rfl, r1, r2⟩ := vals2 r
  obtain rfl : u1 = Value.ref a := r1
  obtain ⟨ox, od, J, _⟩ := exc_inst I h1 h2
  rcases h3 with ⟨c, rfl, e⟩ | ⟨tp, cs, rfl, ht, e⟩
  · obtain rfl : u2 = Value.ref (He.ga X.K c) := r2
    exact kia_one (exc_kit T) I.kIn J e (fun z => nomatch z) fun tk => ⟨.bl b, H, I.tok tk, rfl, q⟩
  · obtain rfl : u2 = Value.ref tp := r2
    obtain ⟨_, its, rv, o, g1, g2, n, g3⟩ := (show ObjOk X.prog X.w H s.heap tp (.tup (cs.map fun c => .ref (He.ga X.K c))) from I.hok tp _ ht)
    have ei : its = cs.map fun c => Value.ref (He.ga X.K c) := by
      have : (cs.map fun c => V.ref (He.ga X.K c)) = (cs.map (He.ga X.K)).map V.ref := by rw [List.map_map]; rfl
      rw [this] at rv
      rw [vals_refs rv, List.map_map]
      rfl
    subst ei
    obtain ⟨oc, odd, oda, osl⟩ := o
    dsimp only at g2 g3
    subst g2 g3
    exact kia_tup (exc_kit T) I.kIn J g1 e (fun z => nomatch z) fun tk => ⟨.bl b, H, I.tok tk, rfl, q⟩
def clsOf : D → Option Str
  | .cls c => some c
  | _ => none
/-- isinstance(e, ..) asked of the classes cs, answered by a table -/
def fbIsX (cs : List Str) (tab : List (Str × Bool)) : Fb := fun ds ws => match ds with
  | [.exc c _ _, .cls d] => if cs = [d] then (tab.lookup c).map fun b => (.bl b, ws) else none
  | [.exc c _ _, .tup l] => if l = cs.map .cls then (tab.lookup c).map fun b => (.bl b, ws) else none
  | _ => none
def IsXT (K : PySem.W.Frag) (cs : List Str) (tab : List (Str × Bool)) : Prop := ∀ c b, tab.lookup c = some b → ExcC K (He.ga K c) ∧ kitAny K (.ref (He.ga K c)) (cs.map fun c => .ref (He.ga K c)) = some b ∧ ∀ d, cs = [d] → kitOne K (.ref (He.ga K c)) (.ref (He.ga K d)) = some b
theorem reps_cls {as : List Addr} {G : Hp} : ∀ {cs : List Str} {vs : List V}, Reps K as G (cs.map .cls) vs → vs = cs.map fun c => V.ref (He.ga K c)
  | [], vs, h => h.unnil
  | c :: cs, vs, h => by
    obtain ⟨v, r, e, h1, h2⟩ := h.uncons
    simp only [Rep] at h1
    rw [e, h1, reps_cls h2]
    rfl
theorem cd_isX {cs : List Str} {tab : List (Str × Bool)} (T : IsXT K cs tab) : CaD K (rIsX K) (fbIsX cs tab) := by
  intro ws G H as xs ds y ws' Q W rs e k
  unfold fbIsX at e
  split at e
  · rename_i c ks l d
    split at e
    · rename_i hcs
      obtain ⟨b, hb, he⟩ := Option.map_eq_some_iff.mp e
      cases he
      obtain ⟨t1, t2, t3⟩ := T c b hb
      obtain ⟨x1, r1, e1, g1, g2⟩ := rs.uncons
      obtain ⟨x2, r2, e2, g3, g4⟩ := g2.uncons
      rw [g4.unnil] at e2
      subst e1 e2
      simp only [Rep] at g1 g3
      obtain ⟨a, dd, vs, f1, f2, f3, f4, f5⟩ := g1
      subst f1 g3
      exact ⟨a, _, dd, ks, vs, _, b, rfl, W.le _ _ f2, f3.up W.le, t1, k _ G H as Rch.refl W (by simp [Rep]), .inl ⟨d, rfl, t3 d hcs⟩⟩
    · cases e
  · rename_i c ks l l2
    split at e
    · rename_i hcs
      obtain ⟨b, hb, he⟩ := Option.map_eq_some_iff.mp e
      cases he
      obtain ⟨t1, t2, t3⟩ := T c b hb
      obtain ⟨x1, r1, e1, g1, g2⟩ := rs.uncons
      obtain ⟨x2, r2, e2, g3, g4⟩ := g2.uncons
      rw [g4.unnil] at e2
      subst e1 e2
      subst hcs
      simp only [Rep] at g1 g3
      obtain ⟨a, dd, vs, f1, f2, f3, f4, f5⟩ := g1
      obtain ⟨tp, us, f6, f7, f8⟩ := g3
      subst f1 f6
      rw [reps_cls f8] at f7
      exact ⟨a, _, dd, ks, vs, _, b, rfl, W.le _ _ f2, f3.up W.le, t1, k _ G H as Rch.refl W (by simp [Rep]), .inr ⟨tp, cs, rfl, W.le _ _ f7, t2⟩⟩
    · cases e
  · cases e
/-- a class's name as a value -/
theorem ae_clsN {X : Cx} {E : XK} {c x : Str} {pos : Pos} (hm : X.mg x = some (.ref (He.ga K c))) (hK : X.K = K := by rfl) (hg : Gl X x := by rfl) (hdb : (x == ("__debug__" : Str)) = false := by decide) : AE K X E (.Name x pos) (tC (.ref (He.ga K c))) (sC (.cls c)) :=
  ⟨hK, pe_glob hg hm rfl hdb, .const fun _ _ => by simp [Rep]⟩
/-! ### a field of a caught exception -/
def ixOf : List Str → Str → Nat → Option Nat
  | [], _, _ => none
  | k :: ks, f, i => if k = f then some i else ixOf ks f (i + 1)
/-- e.f, for the classes cs -/
def sXf (cs : List Str) (f : Str) (a : Se) : Se := fun ρ ws => (a ρ ws).bind fun x ws1 => match x with
  | .exc c ks l => if c ∈ cs then R.ofO (((ks.zip l).lookup f)) ws1 else .bad
  | _ => .bad
theorem lookup_rep {as : List Addr} {G : Hp} {f : Str} {d : D} : ∀ {ks : List Str} {l : List D} {vs : List V}, Reps K as G l vs → (ks.zip l).lookup f = some d → ∃ v, (ks.zip vs).lookup f = some v ∧ Rep K as G d v
  | [], l, vs, r, e => by simp at e
  | k :: ks, [], vs, r, e => by simp at e
  | k :: ks, x :: l, vs, r, e => by
    obtain ⟨v, r', e1, h1, h2⟩ := r.uncons
    subst e1
    simp only [List.zip_cons_cons, List.lookup_cons] at e ⊢
    split at e
    · cases e
      exact ⟨v, by simp, h1⟩
    · exact lookup_rep h2 e
def XfT (K : PySem.W.Frag) (cs : List Str) (f : Str) : Prop := ∀ c ∈ cs, XfC K (He.ga K c) ∧ PySem.W.findIn K (.ref (He.ga K c)) f = some none
def tXg (K : PySem.W.Frag) (f : Str) (te : TE) : TE := fun σ H Q => te σ H fun x H1 => ∃ (a C dd : Addr) (fs : List (Str × V)) (v : V), x = .ref a ∧ H1 a = some (ExH (.ref C) (some dd) a) ∧ H1 dd = some (.xd fs) ∧ fs.lookup f = some v ∧ XfC K C ∧ PySem.W.findIn K (.ref C) f = some none ∧ Q v H1
theorem pe_xg {X : Cx} {e : Expr} {f : Str} {te : TE} {pos : Pos} (he : PE X e te) (hb : attributeBase e f X.env (eval e X.env) = eval e X.env := by rfl) : PE X (.Attribute e f pos) (tXg X.K f te) := by
  refine ⟨fun pins s σ H Q I h => ?_⟩
  refine attr_of hb (thn (he.run pins s σ H _ I h) fun u s1 hh => ?_)
  obtain ⟨x, H1, I1, rx, a, C, dd, fs, v, ex, e1, e2, e3, T, hno, q⟩ := hh
  subst ex
  obtain rfl : u = Value.ref a := rx
  obtain ⟨⟨oe, us, f1, f2, f3⟩, _⟩ := I1.hok a _ e1
  obtain ⟨mA, hns, hr⟩ := (show ObjOk X.prog X.w H1 s1.heap dd (.xd fs) from I1.hok dd _ e2)
  obtain ⟨od, ho, hl⟩ := lookIn_ns hns
  obtain ⟨u, hu, ru⟩ := RelO.some_of (v := v) (o := mA f) (by rw [← e3]; exact hr f)
  have J : PySem.W.InstAt s1.heap a oe C (some od) := ⟨f1, f2.1, by unfold PySem.W.notCls; rw [f3] <;> rfl, by rw [f2.2]; exact ho⟩
  exact HandSPX.exc_get I1.kIn J T.ga T.gg T.exC (PySem.W.findObj_own T.hdC hno rfl (by rw [hl, hu])) (handed_of ru) ⟨v, H1, I1.tok _, ru, q⟩
theorem ae_xf {X : Cx} {E : XK} {e : Expr} {f : Str} {te : TE} {se : Se} {pos : Pos} {cs : List Str} (T : XfT K cs f) (h : AE K X E e te se) (hb : attributeBase e f X.env (eval e X.env) = eval e X.env := by rfl) : AE K X E (.Attribute e f pos) (tXg K f te) (sXf cs f se) := by
  have e0 := h.hK
  subst e0
  refine ⟨rfl, pe_xg h.pe hb, fun ρ ws G H as σ Q W S P => h.ev ρ ws G H as σ _ W S (Post.bind P fun d ws1 x G1 H1 as1 r1 W1 rx P1 => ?_)⟩
  split at P1
  · rename_i c ks l
    split at P1
    · rename_i hc
      obtain ⟨y, ey, P2⟩ := Post.ofO P1
      simp only [Rep] at rx
      obtain ⟨a, dd, vs, f1, f2, f3, f4, f5⟩ := rx
      obtain ⟨v, g1, g2⟩ := lookup_rep f5 ey
      rcases f3 with ⟨_, e2⟩ | ⟨b, e1, e2⟩
      · subst e2
        simp at ey
      · subst e1
        exact ⟨a, _, b, _, v, f1, W1.le _ _ f2, W1.le _ _ e2, g1, (T c hc).1, (T c hc).2, Post.done P2 W1 g2⟩
    · exact False.elim P1
  · exact False.elim P1
end
end RL
set_option Elab.async false
set_option linter.all false
set_option maxRecDepth 100000
set_option maxHeartbeats 4000000
/-! RL23: raise of an own exception. -/
namespace RL
open PySem PySem.Spec PyProof.Rows L2
variable [kd : KdC]
/-- what the making of an exception with the fields ks promises -/
def spX (C : Addr) (ks : List Str) : Sp := fun vs H Q _ => ∃ (a : Addr) (us : List V), vs = .ref a :: us ∧ us.length = ks.length ∧ H a = some (exo a C none) ∧ ∀ d, H d = none → d ≠ a → Q .non (upd (upd H d (exd d (ks.zip us).reverse)) a (exo a C (some d)))
section
variable {P : Program} {w : World} {K : PySem.W.Frag} {mg : Str → Option Value} {base : Heap} {qual : Str} {scope : Scope} {f C : Addr} {fd : FuncData} {params : Arguments} {body : List Stmt} {p0 p1 p2 p3 p4 p5 p6 p7 p8 p9 p10 p11 ap cp pE : Pos} {x y f1 f2 : Str}
theorem xfn1 {CX : CXT} (S : SupS ["self", x] scope) (hbo : body = [.Expr (.Call (.Attribute (.Call (.Name "super" p0) [] [] p1) "__init__" ap) [.Name x p2] [] cp) pE, .Assign [.Attribute (.Name "self" p3) f1 p4] (.Name x p5) p6])
    (F : SupF P K C f qual params body scope fd) (hpar : ∃ ar, (params.posonlyargs ++ params.args).head? = some ar ∧ ar.arg = "self") (hmg : mg "super" = none) (hf1 : PySem.W.findIn K (.ref C) f1 = some none) (hev : EvSup qual scope f p0 p1 ap cp [.Name x p2])
    (hx1 : (x == ("__debug__" : Str)) = false := by decide) (hx2 : (x == ("__classdict__" : Str)) = false := by decide) : FnOk P w K mg base CX 2 f fd ["self", x] (spX C [f1]) := by
  refine sup_fn (hev := hev) S hbo F hpar hmg (fun vs H Q E ⟨a, us, e, hl, _⟩ => by rw [e]; simpa using hl) fun cda cc A outer s H vs Q E hr ⟨a, us, e, hl, ha, hq⟩ => ?_
  match us, hl with
  | [u], _ =>
    subst e
    have v0 : Vis scope "self" := .inl (S.par _ (by simp))
    have v1 : Vis scope x := .inl (S.par _ (by simp))
    refine ⟨a, _, _, rfl, ha, pa_cons (pe_var (i := 1) rfl v1 hx1 hx2) pa_nil, pss_one (ps_ost (pe_var (i := 0) rfl v0) (pe_var (i := 1) rfl v1 hx1 hx2)), fun Qa h => ?_⟩
    refine ⟨u, rfl, h [u] H (by simp) ha ?_⟩
    refine ⟨u, rfl, V.ref a, rfl, a, C, rfl, F.ox, hf1, .inl ⟨ha, fun d h1 h2 => hq d h1 h2⟩⟩
theorem xfn2 {CX : CXT} (S : SupS ["self", x, y] scope) (hbo : body = [.Expr (.Call (.Attribute (.Call (.Name "super" p0) [] [] p1) "__init__" ap) [.Name x p2, .Name y p7] [] cp) pE, .Assign [.Attribute (.Name "self" p3) f1 p4] (.Name x p5) p6, .Assign [.Attribute (.Name "self" p8) f2 p9] (.Name y p10) p11])
    (F : SupF P K C f qual params body scope fd) (hpar : ∃ ar, (params.posonlyargs ++ params.args).head? = some ar ∧ ar.arg = "self") (hmg : mg "super" = none) (hf1 : PySem.W.findIn K (.ref C) f1 = some none) (hf2 : PySem.W.findIn K (.ref C) f2 = some none) (hev : EvSup qual scope f p0 p1 ap cp [.Name x p2, .Name y p7])
    (hx1 : (x == ("__debug__" : Str)) = false := by decide) (hx2 : (x == ("__classdict__" : Str)) = false := by decide) (hy1 : (y == ("__debug__" : Str)) = false := by decide) (hy2 : (y == ("__classdict__" : Str)) = false := by decide) : FnOk P w K mg base CX 2 f fd ["self", x, y] (spX C [f1, f2]) := by
  refine sup_fn (hev := hev) S hbo F hpar hmg (fun vs H Q E ⟨a, us, e, hl, _⟩ => by rw [e]; simpa using hl) fun cda cc A outer s H vs Q E hr ⟨a, us, e, hl, ha, hq⟩ => ?_
  match us, hl with
  | [u, v], _ =>
    subst e
    have v0 : Vis scope "self" := .inl (S.par _ (by simp))
    have v1 : Vis scope x := .inl (S.par _ (by simp))
    have v2 : Vis scope y := .inl (S.par _ (by simp))
    refine ⟨a, _, _, rfl, ha, pa_cons (pe_var (i := 1) rfl v1 hx1 hx2) (pa_cons (pe_var (i := 2) rfl v2 hy1 hy2) pa_nil), pss_cons (ps_ost (pe_var (i := 0) rfl v0) (pe_var (i := 1) rfl v1 hx1 hx2)) (pss_one (ps_ost (pe_var (i := 0) rfl v0) (pe_var (i := 2) rfl v2 hy1 hy2))), fun Qa h => ?_⟩
    refine ⟨u, rfl, v, rfl, h [u, v] H (by simp) ha ?_⟩
    refine ⟨u, rfl, V.ref a, rfl, a, C, rfl, F.ox, hf1, .inl ⟨ha, fun d h1 h2 => ?_⟩⟩
    refine ⟨v, rfl, V.ref a, rfl, a, C, rfl, F.ox, hf2, .inr ⟨d, [(f1, u)], upd_same, by rw [upd_ne h2, upd_same], by simp, ?_⟩⟩
    have e : upd (upd (upd H d (exd d [(f1, u)])) a (exo a C (some d))) d (exd d [(f2, v), (f1, u)]) = upd (upd H d (exd d [(f2, v), (f1, u)])) a (exo a C (some d)) := by
      funext b
      by_cases hb : b = d
      · subst hb
        rw [upd_same, upd_ne h2, upd_same]
      · by_cases hb2 : b = a
        · subst hb2
          rw [upd_ne hb, upd_same, upd_same]
        · rw [upd_ne hb, upd_ne hb2, upd_ne hb, upd_ne hb2, upd_ne hb]
    rw [e]
    exact hq d h1 h2
end
/-- C(e, ..), its record's context None -/
theorem pmk_oexN {X : Cx} {CX : CXT} {x : Str} {e : Expr} {es : List Expr} {ta : TA} {p pos : Pos} {C fI : Addr} {k : Nat} {fd : FuncData} {ps : List Str} {sp : Sp} (T : OexC X.K C) (iC : PySem.W.findIn X.K (.ref C) "__init__" = some (some (.ref fI))) (tI : PySem.W.typeIn X.K (.ref fI) = some (.type "function"))
    (F1 : FnOk X.prog X.w X.K X.mg X.base CX k fI fd ps sp) (hr : Room (k + 1) X.A) (hb : Binds X.K fd ps []) (hx : Passes CX X (fun _ _ _ => False)) (hg : Gl X x) (hm : X.mg x = some (.ref C)) (ha : PA X (e :: es) ta)
    (hdb : (x == ("__debug__" : Str)) = false := by decide) (he : starEach (e :: es) X.env = (false, eval e X.env) :: starEach es X.env := by rfl) (hpl : (backTo pos (starEach es X.env)).any (·.1) = false := by rfl) :
    L2N.PMk X (.Call (.Name x p) (e :: es) [] pos) (tMkO C sp [] ta) := by
  intro pins s σ H Q I h
  obtain ⟨nm, q, N, bs, bm, sn, sub, ab, col, dd, k0, k1, k2, k3, k5, hC, hbm⟩ := T.cls
  refine wpAny_Call_Name_kw (ld_glob I hg hm ?_ hdb)
  refine PySem.W.callWith_K (h₀ := X.base) I.ok.mod.kin T.kC (thn (ha.run pos pins s σ H _ I h) fun us s1 ⟨vs, H1, I1, r1, hz, q1⟩ => ⟨I1.kIn, ?_⟩) he hpl
  show wpAny _ _ (call (.ref C) us) _ _ _
  obtain ⟨hp, g, dr, tk, os⟩ := s1
  have hsz : hp.objs.size ≤ hp.objs.size + 1 := Nat.le_succ _
  have hn : H1 (hp.objs.size + 1) = none := I1.hok.fresh hsz
  have hq := q1 (hp.objs.size + 1) hn
  rw [List.append_nil] at hq
  have kk : ∀ b o, hp.get? b = some o → ((hp.push (PySem.W.kdv_tup us)).push (PySem.HandSPX.excO C hp.objs.size)).get? b = some o := fun b o e => Heap.get?_push_of_some _ (Heap.get?_push_of_some _ e)
  have hget : ((hp.push (PySem.W.kdv_tup us)).push (PySem.HandSPX.excO C hp.objs.size)).get? (hp.objs.size + 1) = some (PySem.HandSPX.excO C hp.objs.size) := by heap_get
  have I2 : Inv X pins σ (upd H1 (hp.objs.size + 1) (exo (hp.objs.size + 1) C none)) ⟨(hp.push (PySem.W.kdv_tup us)).push (PySem.HandSPX.excO C hp.objs.size), g, dr, tk, os⟩ :=
    I1.laid (t' := tk) (a := hp.objs.size + 1) (o := exo (hp.objs.size + 1) C none) (h' := (hp.push (PySem.W.kdv_tup us)).push (PySem.HandSPX.excO C hp.objs.size)) kk hsz (exo_ok hget)
  have r2 : Vals (V.ref (hp.objs.size + 1) :: vs) (Value.ref (hp.objs.size + 1) :: us) := .cons rfl r1
  have hl : (Value.ref (hp.objs.size + 1) :: us ++ []).length = ps.length := by
    have e := r2.length
    rw [F1.len _ _ _ _ hq] at e
    rw [List.append_nil]
    exact e.symm
  have hus : us.length ≤ sizeLine := by
    rw [← Paired.length r1, sizeLine_eq]
    omega
  have b2 := hb _ (Value.ref (hp.objs.size + 1) :: us) I2.kIn hl
  rw [List.append_nil] at b2
  refine wpAny_call (PySem.HandSPX.call_own F.excBase_ValueError (fun Y => PySem.HandSPX.refsVE_contains Y bm hbm) (I1.kIn _ _ hC) (PySem.W.looks_findIn I1.kIn iC) (fun self => PySem.W.bind_fn I1.kIn self tI) hus
    (codeAny_mono (F1.run _ X.stack _ _ ⟨Value.ref (hp.objs.size + 1) :: us, []⟩ (Value.ref (hp.objs.size + 1) :: us) _ _ (fun _ _ _ => False) (hr.make C us []) (I2.env0.make C us []) b2 r2 hq) fun r s' hq' => ?_))
  cases r with
  | error er => exact hx pins σ _ _ er s' I2 hq'
  | ok fl =>
    cases fl with
    | ret u =>
      obtain ⟨v, H2, os2, bare2, un2, hok2, rv, ev, d, fs, ea, ed, hd1, q2⟩ := hq'
      subst ev
      obtain ⟨h2, g2, d2, t2, os'⟩ := s'
      obtain ⟨t0, G, J, kG, ge, hoe, na⟩ := mk_end0 (d2 := d2) (t2 := t2) I1 hsz kk un2 hok2 os2 bare2 ea ed hd1
      refine ⟨rv, hp.objs.size + 1, _, _, ⟨G, g2, d2, t2, os'⟩, _, .ref C, some d, rfl, J, kG, ge, hoe, ⟨rfl, rfl, fun vs hv => ?_⟩, rfl, rfl, na, rfl, bare2, raises_own T.exC T.tyC, q2⟩
      cases hv
      rfl
    | next => exact False.elim hq'
    | brk => exact False.elim hq'
    | cont => exact False.elim hq'
/-- what the raising of x(..) needs: an own class c, its fields -/
structure XMk (X : Cx) (x c : Str) (ks : List Str) : Prop where
  ok : ∃ (fI : Addr) (fd : FuncData) (ps : List Str), OexC X.K (He.ga X.K c) ∧ PySem.W.findIn X.K (.ref (He.ga X.K c)) "__init__" = some (some (.ref fI)) ∧ PySem.W.typeIn X.K (.ref fI) = some (.type "function") ∧ FnOk X.prog X.w X.K X.mg X.base C8.CX0 2 fI fd ps (spX (He.ga X.K c) ks) ∧ Binds X.K fd ps []
  mg : X.mg x = some (.ref (He.ga X.K c))
/-- raise c(..) -/
def sRaise (c : Str) (ks : List Str) (a : Sa) : Ss := fun ρ ws => (a ρ ws).bind fun ds ws1 => if ds.length = ks.length ∧ ks.length ≤ 900 then .ex ⟨c, ks.reverse, ds.reverse⟩ ws1 else .bad
theorem Reps.rev {K : PySem.W.Frag} {as : List Addr} {G : Hp} : ∀ {ds : List D} {vs : List V}, Reps K as G ds vs → Reps K as G ds.reverse vs.reverse
  | [], vs, h => by rw [h.unnil]; exact Reps.nil
  | d :: ds, vs, h => by
    obtain ⟨v, r, e, h1, h2⟩ := h.uncons
    subst e
    rw [List.reverse_cons, List.reverse_cons]
    exact (Reps.rev h2).app (Reps.one h1)
theorem zip_rev {α β : Type} : ∀ {l : List α} {m : List β}, l.length = m.length → (l.zip m).reverse = l.reverse.zip m.reverse
  | [], m, _ => by simp
  | a :: l, [], h => by simp at h
  | a :: l, b :: m, h => by
    have h' : l.length = m.length := by simpa using h
    rw [List.zip_cons_cons, List.reverse_cons, List.reverse_cons, List.reverse_cons, zip_rev h', List.zip_append (by simpa using h')]
    rfl
section
variable {K : PySem.W.Frag} {X : Cx} {E : XK} {e : Expr} {es : List Expr} {ta : TA} {sa : Sa} {x c : Str} {ks : List Str} {p pos pos' : Pos}
theorem as_raise (M : XMk X x c ks) (hr : Room 3 X.A) (tk : Tk X fun cls d _ H => E cls d H) (ha : AA K X E (e :: es) ta sa) (hc : X.calm = true := by rfl) (hg : Gl X x := by rfl) (hdb : (x == ("__debug__" : Str)) = false := by decide)
    (he : starEach (e :: es) X.env = (false, eval e X.env) :: starEach es X.env := by rfl) (hpl : (backTo pos (starEach es X.env)).any (·.1) = false := by rfl) :
    AS K X E (.Raise (some (.Call (.Name x p) (e :: es) [] pos)) none pos') (fun _ σ H => tMkO (He.ga K c) (spX (He.ga K c) ks) [] ta σ H fun cls d H' => E cls d H') (sRaise c ks sa) := by
  have e0 := ha.hK
  subst e0
  obtain ⟨fI, fd, ps, T, iC, tI, F1, hb⟩ := M.ok
  refine ⟨rfl, ps_raiseK hc tk (pmk_oexN T iC tI F1 hr hb pass0 hg M.mg ha.pe hdb he hpl), fun ρ ws G H as σ D W S P => ?_⟩
  show ta σ H _
  refine ha.ev ρ ws G H as σ _ W S (PostS.bind P fun ds ws1 vs G1 H1 as1 r1 W1 rs P1 => ?_)
  split at P1
  · rename_i hl
    obtain ⟨hl, hk⟩ := hl
    have lv : vs.length = ks.length := by rw [← rs.len]; exact hl
    refine ⟨by omega, fun a ha0 => ⟨a, vs, by simp, lv, upd_same, fun d hd hda => ⟨rfl, d, (ks.zip vs).reverse, upd_same, by rw [upd_ne hda, upd_same], ?_, ?_⟩⟩⟩
    · rw [upd_ne hda] at hd
      exact hd
    · have hd1 : H1 d = none := by
        rw [upd_ne hda] at hd
        exact hd
      have e : upd (del (upd (upd (upd H1 a (exo a (He.ga X.K c) none)) d (exd d (ks.zip vs).reverse)) a (exo a (He.ga X.K c) (some d))) a) d (.xd (ks.zip vs).reverse) = upd H1 d (.xd (ks.zip vs).reverse) := by
        funext b
        by_cases hb : b = d
        · subst hb
          rw [upd_same, upd_same]
        · rw [upd_ne hb, upd_ne hb]
          by_cases hb2 : b = a
          · subst hb2
            rw [del_same, ha0]
          · rw [del_ne hb2, upd_ne hb2, upd_ne hb, upd_ne hb2]
      rw [e]
      have P2 : PostX X.K E G1 H1 as1 ⟨c, ks.reverse, ds.reverse⟩ ws1 := P1
      refine P2 _ _ (upd G1 d (.xd (ks.zip vs).reverse)) _ as1 (Rch.new W1.le hd1) (W1.new hd1) ⟨rfl, vs.reverse, .inr ⟨d, rfl, ?_⟩, by simpa using hl.symm, (Reps.rev rs).up (List.prefix_refl _) (Rch.new (as := as1) W1.le hd1).up⟩
      rw [upd_same, zip_rev lv.symm]
  · exact False.elim P1
/-- an own class without own making, made of nothing -/
structure XMk0 (X : Cx) (x c : Str) : Prop where
  ex : PySem.W.excIn X.K (He.ga X.K c) [.type "ValueError", .type "Exception", .type "BaseException", .type "object"] "ValueError.__new__" = true
  kp : PySem.W.keepIn X.K (.ref (He.ga X.K c)) = true
  b : PySem.W.subIn X.K (.ref (He.ga X.K c)) (.type "BaseException") = some true
  t : PySem.W.typeIn X.K (.ref (He.ga X.K c)) = some (.type "type")
  mg : X.mg x = some (.ref (He.ga X.K c))
def sRaise0 (c : Str) : Ss := fun _ ws => .ex ⟨c, [], []⟩ ws
theorem as_raise0 (M : XMk0 X x c) (tk : Tk X fun cls d _ H => E cls d H) (hK : X.K = K := by rfl) (hc : X.calm = true := by rfl) (hg : Gl X x := by rfl) (hdb : (x == ("__debug__" : Str)) = false := by decide) :
    AS K X E (.Raise (some (.Call (.Name x p) [] [] pos)) none pos') (fun _ σ H => E (.ref (He.ga K c)) none H) (sRaise0 c) := by
  subst hK
  have hp : L2N.PMk X (.Call (.Name x p) [] [] pos) (fun _ H Q => Q (.ref (He.ga X.K c)) none H) := by
    intro pins s σ H Q I h
    refine wpAny_Call_Name_kw (ld_glob I hg M.mg ?_ hdb)
    refine PySem.W.callWith_K0 I.kIn M.kp ?_
    show wpAny _ _ (call (.ref (He.ga X.K c)) []) _ _ _
    obtain ⟨bm, N, nm, qn, bs, hdct, sn, sub, ab, col, dd, k0, k1, k2, k3, k5, mN, hC, hN, hni, T⟩ := exc_obj I.kIn M.ex
    refine wpAny_call_exc_subT PySem.F.excBase_ValueError T hC hN hni (fun h' e hm => ?_) (Nat.zero_le _)
    exact L2N.mk_of I hm (raises_own M.b M.t) h (I.hok.gone hm.new)
  refine ⟨rfl, ps_raiseK hc tk hp, fun ρ ws G H as σ D W S P => ?_⟩
  have P2 : PostX X.K E G H as ⟨c, [], []⟩ ws := P
  exact P2 _ _ G H as Rch.refl W ⟨rfl, [], .inl ⟨rfl, rfl⟩, rfl, Reps.nil⟩
end
end RL
set_option Elab.async false
set_option linter.all false
set_option maxRecDepth 100000
set_option maxHeartbeats 4000000
/-! RL24: f(lambda: e), f's body: caught = None; try: return [ask()] / except X as n: caught = n; then what is told of the caught one. -/
namespace RL
open PySem PySem.Spec PyProof.Rows L2 LamX
section
variable {X : Cx} {pins : List (Addr × Obj)} {σ : L2.St} {H : Hp} {s : Shared}
/-- ask(), where an exception is wished for at the caller's slots -/
theorem pe_ask {CXg : CXT} {Eg : XK} {Ng : List Str} {qg : Str} {sg : Scope} {g f c' : Addr} {cdg pm ctv : Value} {params : Arguments} {body : Expr} {scope : Scope} {k i : Nat} {a : Str} {pn : List (Addr × Obj)} {xe : Value → Shared → Prop} {W : WX} {tb : XK → TE} {p1 p2 : Pos}
    (I : Inv X pins σ H s) (L : LamS X.env.scope scope) (hf : s.heap.get? f = some (PySem.W.kla_obj "<lambda>" (X.env.qual ++ "<lambda>") params body scope (cloFrom X.env.cells scope.names []) pm c' ctv)) (hfn : H f = none) (hfr : f ∉ frs X.stack)
    (hbind : bindArgs (PySem.W.kla_fn "<lambda>" (X.env.qual ++ "<lambda>") params body scope (cloFrom X.env.cells scope.names []) pm (.ref c') ctv) ⟨[], []⟩ = pure [])
    (tk : Takes ((cxOf CXg X.prog X.w X.K X.mg X.base Ng qg sg g cdg X.A X.stack s H Eg).tr pn xe) W) (hr : Room (k + 1) (X.A.deeper (envOfC qg sg s.heap.objs.size g cdg)))
    (hbody : ∀ (E : XK) (A : Around) (outer : List Env) (s : Shared) (H : Hp), A.guards = X.A.guards → Room k (A.deeper (lamEnv X scope s.heap.objs.size f c')) → PE (lamCx X A outer s H E scope f c') body (tb E))
    (hN : Ng[i]? = some a) (hv : Vis sg a) (hd : (a == ("__debug__" : Str)) = false) (hcd : (a == ("__classdict__" : Str)) = false) :
    PE ((cxOf CXg X.prog X.w X.K X.mg X.base Ng qg sg g cdg X.A X.stack s H Eg).tr pn xe) (.Call (.Name a p1) [] [] p2)
      (fun σZ HZ Q => σZ[i]? = some (some (.ref f)) ∧ HZ c' = some (CodeO c' (X.env.qual ++ "<lambda>")) ∧ tb (WE W σZ) σ HZ Q) := by
  refine ⟨fun pinsZ sZ σZ HZ Q IZ h => ?_⟩
  obtain ⟨h0, h1, h2⟩ := h
  refine wpAny_Call_Name_kw (thn ((pe_var (pos := p1) (i := i) hN hv hd hcd).run pinsZ sZ σZ HZ (fun v H1 => v = .ref f ∧ H1 = HZ) IZ ⟨.ref f, h0, rfl, rfl⟩) fun u s1 ⟨v, H1, I1, r1, q1⟩ => ?_)
  obtain ⟨ev, eH⟩ := q1
  subst ev
  rw [eH] at I1
  obtain rfl : u = Value.ref f := r1
  have of1 := I1.base.keep f _ hf hfn hfr (fun z => nomatch (show f ∈ ([] : List Addr) from z))
  refine PySem.W.callWith_F0 ⟨_, _, _, _, of1⟩ ?_
  have un : Un (frs X.stack) [] H HZ s.heap s1.heap := I1.base
  obtain ⟨⟨oc, vs, t, hoc, hdc, hvc⟩, _, _⟩ := I1.hok c' _ h1
  have rc : codeAny (model X.prog X.w) (X.A.deeper (envOfC qg sg s.heap.objs.size g cdg)) (.call (.ref f) ⟨[], []⟩) (CR (L2.CX X.prog X.w) (envOfC qg sg s.heap.objs.size g cdg :: X.stack) X.prog X.w HZ s1 Q (WE W σZ)) s1 := by
    refine PySem.W.kla_callFunE hr.depth of1 rfl L.co L.gen rfl ⟨c', oc, vs, t, rfl, hoc, hdc, hvc⟩ ?_
    rw [hbind]
    refine wpAny_pure (wpAny_newFunctionEnv (fun y hy => (L.own y hy).2) (fun y hy => absurd hy (by simp)) (fun h₁ hns hsb => ⟨I1.nolimit.fresh _ hsb, ?_⟩) L.kind)
    show codeAny _ _ (.expr body (lamEnv X scope s1.heap.objs.size f c')) _ _
    have kp : ∀ b o, s1.heap.get? b = some o → h₁.get? b = some o := fun b o e => hsb.extBut b o (Nat.ne_of_lt (Heap.lt_size e)) (Heap.get?_push_of_some _ e)
    have J : Inv (lamCx X (X.A.deeper (envOfC qg sg s.heap.objs.size g cdg)) (envOfC qg sg s.heap.objs.size g cdg :: X.stack) s1 HZ (WE W σZ) scope f c') [] σ HZ { s1 with heap := h₁, toks := s1.toks + ([] : List (Str × Value)).length } :=
      lam_start2 I L I1.env0 hr.hd un hns kp
    refine PySem.W.kla_codeExpr (wpAny_mono ((hbody _ (X.A.deeper (envOfC qg sg s.heap.objs.size g cdg)) _ s1 HZ rfl (hr.deeper _)).run [] _ _ HZ Q J h2) (fun v s' hq => ?_) fun e s' hq => hq)
    obtain ⟨w', H', J', rv, q⟩ := hq
    exact ⟨w', H', J'.os, J'.bare, J'.base, J'.hok, rv, q⟩
  have hx := passAt tk σZ
  refine wpAny_call (codeAny_mono rc fun r s' hq => ?_)
  cases r with
  | error e => exact hx pinsZ HZ s1 e s' I1 hq
  | ok fl =>
    cases fl with
    | ret u => exact I1.after hq
    | next => exact False.elim hq
    | brk => exact False.elim hq
    | cont => exact False.elim hq
end
/-- the def that got a lambda: TT tells what it makes of the lambda's reading -/
def Asks (X : Cx) (Ng : List Str) (x : Str) (sg : Scope) (g : Addr) (cdg : Value) (bg : List Stmt) (a : Str) (q : Str) (TT : (XK → Hp → VK → Prop) → Hp → VK → Prop) : Prop :=
  ∀ (f c' : Addr) (s : Shared) (H : Hp) (Q : VK) (tl : XK → Hp → VK → Prop),
    (∀ (W : WX) (pn : List (Addr × Obj)) (xe : Value → Shared → Prop) (p1 p2 : Pos), Takes ((cxOf C8.CX0 X.prog X.w X.K X.mg X.base Ng x sg g cdg X.A X.stack s H C8.E0).tr pn xe) W →
      PE ((cxOf C8.CX0 X.prog X.w X.K X.mg X.base Ng x sg g cdg X.A X.stack s H C8.E0).tr pn xe) (.Call (.Name a p1) [] [] p2) (fun σZ HZ Q => σZ[0]? = some (some (.ref f)) ∧ HZ c' = some (CodeO c' q) ∧ tl (WE W σZ) HZ Q)) →
    H c' = some (CodeO c' q) → TT tl H Q →
    ∃ t, PSs (cxOf C8.CX0 X.prog X.w X.K X.mg X.base Ng x sg g cdg X.A X.stack s H C8.E0).nox bg t ∧ t { nx := fun _ H' => Q .non H', rt := Q } (L2.start Ng [.ref f]) H
section
variable {X : Cx}
theorem pe_asks {T : List (Addr × Str)} {TT : (XK → Hp → VK → Prop) → Hp → VK → Prop} {x a : Str} {g c P : Addr} {k : Nat} {pg : Arguments} {bg : List Stmt} {sg : Scope} {dV kV doc pm cdv ct oc : Value} {an od : Option Addr} {osl : Array (Option Value)} {Ng : List Str}
    {params : Arguments} {body : Expr} {scope : Scope} {t : XK → TE} {p lpos pos : Pos} (hg : Gl X x) (hm : X.mg x = some (.ref g)) (hk : PySem.W.keepIn X.K (.ref g) = true)
    (lk : X.K.lookup g = some ⟨oc, od, .func (PySem.W.fnOf x x pg bg sg dV kV doc pm an cdv ct), osl⟩) (hcg : PySem.W.codeIn X.K cdv x = true) (hb : L2.Binds X.K (PySem.W.fnOf x x pg bg sg dV kV doc pm an cdv ct) [a] []) (Sg : FnScope Ng [a] sg) (hNg : Ng[0]? = some a) (hva : Vis sg a)
    (hG : Asks X Ng x sg g cdv bg a (X.env.qual ++ "<lambda>") TT)
    (TB : TabB X.base X.mg c P) (hcode : X.env.code = .ref c) (hmT : (P, X.env.qual ++ "<lambda>") ∈ T) (hu : ∀ p ∈ T, p.1 = P → p.2 = X.env.qual ++ "<lambda>") (hr : Room (k + 2) X.A) (L : LamS X.env.scope scope) (hdef : defaultsOf params X.env = ([], []))
    (hbind : ∀ (q : Str) (cl : List (Str × Addr)) (pm cv ctv : Value), bindArgs (PySem.W.kla_fn "<lambda>" q params body scope cl pm cv ctv) ⟨[], []⟩ = pure [])
    (hbody : ∀ (E : XK) (A : Around) (outer : List Env) (s : Shared) (H : Hp) (f c' : Addr), A.guards = X.A.guards → Room k (A.deeper (lamEnv X scope s.heap.objs.size f c')) → PE (lamCx X A outer s H E scope f c') body (t E))
    (hdb : (x == ("__debug__" : Str)) = false := by decide) (hd : (a == ("__debug__" : Str)) = false := by decide) (hcd : (a == ("__classdict__" : Str)) = false := by decide) :
    PE X (.Call (.Name x p) [.Lambda params body scope lpos] [] pos) (tLam T TT t) := by
  refine ⟨fun pins s σ H Q I h => ?_⟩
  obtain ⟨hT, h⟩ := h
  refine wpAny_Call_Name_kw (ld_glob I hg hm ?_ hdb)
  refine PySem.W.callWith_K (h₀ := X.base) I.ok.mod.kin hk ?_ (by rfl) (by rfl)
  show wpAny _ _ (spliced ((false, eval (.Lambda params body scope lpos) X.env) :: backTo pos (starEach [] X.env))) _ _ s
  refine Calls.spliced_cons (lam_make2 I TB hcode hmT hu hT hdef (L.has I.ok) fun f c' pm' ctv H1 s' I1 eN T1 hf hfn hfr hco => ?_)
  refine Calls.spliced_nil ⟨I1.kIn, ?_⟩
  have rc : codeAny (model X.prog X.w) X.A (.call (.ref g) ⟨[.ref f], []⟩) (CR C8.CX0 X.stack X.prog X.w H1 s' Q C8.E0) s' := by
    refine run_ofS (N := Ng) (ps := [a]) (us := [.ref f]) (vs := [.ref f]) lk hcg Sg hr I1.env0 (hb s' [.ref f] I1.kIn rfl) (.cons rfl .nil) rfl fun hr' => ?_
    obtain ⟨t', ht', hq'⟩ := hG f c' s' H1 Q (fun E H' Q' => t E σ H' Q') (fun W pn xe p1 p2 tk => pe_ask (i := 0) I1 L hf hfn hfr (hbind _ _ _ _ _) tk hr' (fun E A outer s H ga hr2 => hbody E A outer s H f c' ga hr2) hNg hva hd hcd) hco (h H1 eN T1)
    exact ⟨t', ht'.nox, hq'⟩
  refine wpAny_call (codeAny_mono rc fun r s2 hq => ?_)
  cases r with
  | error e => exact (show False from hq).elim
  | ok fl =>
    cases fl with
    | ret u => exact I1.after hq
    | next => exact False.elim hq
    | brk => exact False.elim hq
    | cont => exact False.elim hq
end
/-! ### f(lambda: e) by what f does with what the lambda gives or raises -/
/-- cat: is an exception of this class caught; gr: what is told of it -/
def hrd (cat : List (Str × Bool)) (Ng : List Str) (gr : Ss) (ask : List Ce → R D) (ws : List Ce) : R D := match ask ws with
  | .ok d ws1 => .ok (.lst [d]) ws1
  | .ex e ws1 => if cat.lookup e.c = some true then nox (flR (gr ((List.replicate Ng.length none).set 1 (some (.exc e.c e.ks e.l))) ws1)) else .bad
  | .bad => .bad
def sAsk (m : (List Ce → R D) → List Ce → R D) (el : Se) : Se := fun ρ ws => m (fun ws1 => el ρ ws1) ws
/-- the slots behind the clause -/
def slX (Ng : List Str) (f a : Addr) : L2.St := ((((L2.start Ng [V.ref f]).set 1 (some .non)).set 2 (some (.ref a))).set 1 (some (.ref a))).set 2 none
def TH (K : PySem.W.Frag) (c : Value) (Ng : List Str) (tr : TS) : (XK → Hp → VK → Prop) → Hp → VK → Prop := fun tl H Q => ∀ f : Addr,
  tl (fun cls dd H1 => ∃ b, PySem.W.exmOne K cls c = some b ∧ (b = true → ∀ a, H1 a = none → tr { nx := fun _ H' => Q .non H', rt := Q } (slX Ng f a) (upd H1 a (ExH cls dd a))) ∧ (b = false → False)) H fun v H1 => [v].length ≤ sizeLine ∧ ∀ p, H1 p = none → Q (.ref p) (upd H1 p (.lst [v]))
section
variable {P : Program} {w : World} {K : PySem.W.Frag} {mg : Str → Option Value} {base : Heap} {X : Cx} {E : XK}
theorem asks_of {Ng : List Str} {x a n m y q : Str} {sg : Scope} {g : Addr} {cdg c : Value} {rest : List Stmt} {tr : TS} {j : Nat} {p1 p2 p3 p4 p5 p6 p7 p8 p9 p10 p11 p12 p13 : Pos} (nd : Ng.Nodup) (h0 : Ng[0]? = some a) (h1 : Ng[1]? = some m) (h2 : Ng[2]? = some n)
    (lm : sg.names.lookup m = some .local) (ln : sg.names.lookup n = some .local) (hge : sg.names.lookup y = some .globalImplicit) (hme : X.mg y = some c) (hde : (y == ("__debug__" : Str)) = false)
    (hrest : ∀ (s : Shared) (H : Hp), PSs (cxOf C8.CX0 X.prog X.w X.K X.mg X.base Ng x sg g cdg X.A X.stack s H C8.E0).nox rest tr)
    (hsw1 : ∀ (s : Shared), swapsWith (.Constant .none j p2) (some (.Name m p1)) p3.line (envOfC x sg s.heap.objs.size g cdg) = pure false := by intro _; rfl)
    (hsw2 : ∀ (s : Shared), swapsWith (.Name n p10) (some (.Name m p9)) p11.line (envOfC x sg s.heap.objs.size g cdg) = pure false := by intro _; rfl)
    (hn1 : (n == ("__debug__" : Str)) = false := by decide) (hn2 : (n == ("__classdict__" : Str)) = false := by decide) :
    Asks X Ng x sg g cdg (.Assign [.Name m p1] (.Constant .none j p2) p3 :: .Try [.Return (some (.List [.Call (.Name a p4) [] [] p5] p6)) p7] [.ExceptHandler (some (.Name y p8)) (some n) [.Assign [.Name m p9] (.Name n p10) p11] p12] [] [] p13 :: rest) a q (TH X.K c Ng tr) := by
  intro f c' s H Q tl act hc h
  refine ⟨_, pss_cons (ps_set (i := 1) nd h1 (.inl lm) pe_non (hsw1 s) (.inr lm)) (pss_cons (ps_try_keep (i := 2) (j := 1) (c := c) (tb := fun W => tRet (tLst (tCons (fun σZ HZ Q => σZ[0]? = some (some (.ref f)) ∧ HZ c' = some (CodeO c' q) ∧ tl (WE W σZ) HZ Q) tNil))) rfl rfl rfl nd h2 h1 (by decide) ln lm ⟨hge, hde, .inl hme⟩ L2.takes0
    (fun W pn xe tk _ => pss_one (ps_ret (pe_lst (pa_cons (act W pn xe p4 p5 tk) pa_nil)))) (hsw2 s) hn1 hn2) (hrest s H)), ?_⟩
  exact ⟨rfl, hc, h f⟩
theorem Rch.extN {G H H1 : Hp} {as : List Addr} (eN : ExtN H H1) : Rch G H as G H1 as where
  up := Same.refl _
  pre := List.prefix_refl _
  fr := fun b o _ e k => eN b o e k
  nw := fun _ _ e => e
  fs := fun _ h => .inl h
  th := fun b ⟨o, e, k⟩ => ⟨o, eN b o e k, k⟩
theorem Wd.extN {G H H1 : Hp} {as : List Addr} {ws : List Ce} (W : Wd K G H as ws) (eN : ExtN H H1) (T : Tabs (tabsK K) H1) : Wd K G H1 as ws where
  le := fun b o e => eN b o (W.le b o e) fun ps z => W.ng b ps (by rw [e, z])
  len := W.len
  nd := W.nd
  out := fun a ha => ⟨(W.out a ha).1, (Rch.extN (G := G) (as := as) eN).th a (W.out a ha).2⟩
  at_ := fun i c a e e' => by
    rcases W.at_ i c a e e' with q | ⟨o, q, r⟩
    · exact .inl q
    · refine .inr ⟨o, eN a o q ?_, r⟩
      obtain ⟨o', e2, k⟩ := (W.out a (List.mem_of_getElem? e')).2
      rw [q] at e2
      cases e2
      exact k
  tb := T
  ng := W.ng
theorem slX_get {Ng : List Str} {f a : Addr} (h : 3 ≤ Ng.length) : (slX Ng f a)[1]? = some (some (.ref a)) := by
  unfold slX
  have hl : (L2.start Ng [V.ref f]).length = Ng.length := by
    simp [L2.start]
    omega
  rw [List.getElem?_set_ne (by decide), List.getElem?_set_self (by simp [hl]; omega)]
theorem slX_len {Ng : List Str} {f a : Addr} (h : 3 ≤ Ng.length) : (slX Ng f a).length = Ng.length := by
  unfold slX
  simp [L2.start]
  omega
/-- what f(lambda: ..) needs of f and of the def that stands around -/
theorem ae_asks {cat : List (Str × Bool)} {Ng : List Str} {gr : Ss} {tr : TS} {x a : Str} {g c P0 : Addr} {cv : Value} {k : Nat} {pg : Arguments} {bg : List Stmt} {sg : Scope} {fd : FuncData} {params : Arguments} {body : Expr} {scope : Scope} {p lpos pos : Pos} {el : Se}
    (F : FunD X.K x x pg bg sg [] [] g fd) (hb : L2.Binds X.K fd [a] []) (Sg : FnScope Ng [a] sg) (hm : X.mg x = some (.ref g)) (h3 : 3 ≤ Ng.length) (h0 : Ng[0]? = some a) (hva : Vis sg a) (hG : ∀ cdg : Value, Asks X Ng x sg g cdg bg a (X.env.qual ++ "<lambda>") (TH X.K cv Ng tr))
    (hgr : EvS X.K C8.E0 tr gr) (hcat : ∀ c' b, cat.lookup c' = some b → PySem.W.exmOne X.K (.ref (He.ga X.K c')) cv = some b)
    (TB : TabB X.base X.mg c P0) (hcode : X.env.code = .ref c) (hmT : (P0, X.env.qual ++ "<lambda>") ∈ tabsK X.K) (hu : ∀ p ∈ tabsK X.K, p.1 = P0 → p.2 = X.env.qual ++ "<lambda>") (hr : Room (k + 2) X.A) (L : LamS X.env.scope scope)
    (hbody : ∀ E : XK, ∃ te, ∀ (A : Around) (outer : List Env) (s : Shared) (H : Hp) (f c' : Addr), A.guards = X.A.guards → Room k (A.deeper (lamEnv X scope s.heap.objs.size f c')) → AE X.K (lamCx X A outer s H E scope f c') E body te el)
    (hg : Gl X x := by rfl) (hdef : defaultsOf params X.env = ([], []) := by rfl)
    (hbind : ∀ (q : Str) (cl : List (Str × Addr)) (pm cv ctv : Value), bindArgs (PySem.W.kla_fn "<lambda>" q params body scope cl pm cv ctv) ⟨[], []⟩ = pure [] := by intros; rfl)
    (hdb : (x == ("__debug__" : Str)) = false := by decide) (hd : (a == ("__debug__" : Str)) = false := by decide) (hcd : (a == ("__classdict__" : Str)) = false := by decide) :
    AE X.K X E (.Call (.Name x p) [.Lambda params body scope lpos] [] pos) (tLam (tabsK X.K) (TH X.K cv Ng tr) fun E => Classical.choose (hbody E)) (sAsk (hrd cat Ng gr) el) := by
  obtain ⟨oc, od, dV, kV, doc, pm, an, cdv, ct, osl, rfl, lk, hcg, _, _⟩ := F.ex
  refine ⟨rfl, pe_asks hg hm F.kp lk hcg hb Sg h0 hva (hG cdv) TB hcode hmT hu hr L hdef hbind (fun E A outer s H f c' ga hr' => (Classical.choose_spec (hbody E) A outer s H f c' ga hr').pe) hdb hd hcd, fun ρ ws G H as σ Q W S Pt => ?_⟩
  refine ⟨W.tb, fun H1 eN T1 f => ?_⟩
  have R1 : Rch G H as G H1 as := Rch.extN eN
  have W1 := W.extN eN T1
  refine ((Classical.choose_spec (hbody _) X.A X.stack X.s_0 X.H_0 0 0 rfl ((hr.mono (by omega)).deeper _)).ev) ρ ws G H1 as σ _ W1 S ?_
  have Pt : Post X.K E (Rep X.K) G H as (hrd cat Ng gr (fun ws1 => el ρ ws1) ws) Q := Pt
  unfold hrd at Pt
  cases q : el ρ ws with
  | bad =>
    simp only [q] at Pt
    exact False.elim Pt
  | ok d ws2 =>
    simp only [q] at Pt
    intro v G2 H2 as2 r2 W2 rep
    refine ⟨by show 1 ≤ sizeLine; rw [sizeLine_eq]; omega, fun pp hp => ?_⟩
    refine Pt _ (upd G2 pp (.lst [v])) _ as2 ((R1.trans r2).trans (Rch.new W2.le hp)) (W2.new hp) ?_
    simp only [Rep]
    exact ⟨pp, [v], rfl, upd_same, Reps.one (rep.up (List.prefix_refl _) (Rch.new (as := as2) W2.le hp).up)⟩
  | ex e ws2 =>
    simp only [q] at Pt
    split at Pt
    · rename_i hc
      intro cls dd G2 H2 as2 r2 W2 rx
      obtain ⟨e1, vs, e2, e3, e4⟩ := rx
      subst e1
      refine ⟨true, hcat _ _ hc, fun _ aa haa => ?_, fun z => nomatch z⟩
      have W3 := W2.new (o := ExH (.ref (He.ga X.K e.c)) dd aa) haa ext_tbl
      have R3 := (R1.trans r2).trans (Rch.new (as := as2) (o := ExH (.ref (He.ga X.K e.c)) dd aa) W2.le haa ext_tbl)
      refine hgr _ ws2 _ _ as2 (slX Ng f aa) _ W3 ⟨by rw [slX_len h3]; simp, fun i d hd => ?_⟩ (flR_post (nox_post (E := E) (Post.from Pt R3)))
      by_cases hi : i = 1
      · subst hi
        rw [List.getElem?_set_self (by simp; omega)] at hd
        cases hd
        refine ⟨_, slX_get h3, ?_⟩
        simp only [Rep]
        exact ⟨aa, dd, vs, rfl, upd_same, e2.up (Rch.new (as := as2) W2.le haa ext_tbl).up, e3, e4.up (List.prefix_refl _) (Rch.new (as := as2) W2.le haa ext_tbl).up⟩
      · rw [List.getElem?_set_ne (Ne.symm hi), List.getElem?_replicate] at hd
        split at hd <;> cases hd
    · exact False.elim Pt
end
end RL
set_option Elab.async false
set_option linter.all false
set_option maxRecDepth 100000
set_option maxHeartbeats 4000000
/-! RL25: facts of own exception classes as Bools, the hook with their makings; defs that make lambdas. -/
namespace RL
open PySem PySem.Spec PyProof.Rows L2 LamX
/-! ### an own exception class -/
def oexShape (K : PySem.W.Frag) (C : Addr) : Bool := match K.lookup C with
  | some ⟨.type "type", _, .cls cd, sl⟩ => (match cd.mro, sl.toList with
    | .ref C' :: bm, [_, _, _, _, some (.builtin n), _] => decide (C' = C) && (decide (n = "ValueError.__new__") && (!cd.hasDel && (cd.hasDict && PySem.HandSPX.refsVE bm)))
    | _, _ => false)
  | _ => false
def oexB (c : Str) : Tst := fun K => oexShape K (He.ga K c) && (He.eqO (PySem.W.findIn K (.ref (He.ga K c)) "__setattr__") (some (some (.builtin "object.__setattr__"))) && (decide (PySem.W.subIn K (.ref (He.ga K c)) (.type "BaseException") = some true) &&
  (decide (PySem.W.typeIn K (.ref (He.ga K c)) = some (.type "type")) && PySem.W.keepIn K (.ref (He.ga K c)))))
theorem oex_of {K : PySem.W.Frag} {c : Str} (h : oexB c K = true) : OexC K (He.ga K c) := by
  obtain ⟨h1, h⟩ := He.ba h
  obtain ⟨h2, h⟩ := He.ba h
  obtain ⟨h3, h⟩ := He.ba h
  obtain ⟨h4, h5⟩ := He.ba h
  refine ⟨?_, He.eqO_ok h2, of_decide_eq_true h3, of_decide_eq_true h4, h5⟩
  unfold oexShape at h1
  split at h1
  · rename_i dd cd sl ho
    split at h1
    · rename_i C' bm k0 k1 k2 k3 n k5 hm hs
      obtain ⟨a1, h1⟩ := He.ba h1
      obtain ⟨a2, h1⟩ := He.ba h1
      obtain ⟨a3, h1⟩ := He.ba h1
      obtain ⟨a4, a5⟩ := He.ba h1
      have a1 := of_decide_eq_true a1
      have a2 := of_decide_eq_true a2
      obtain ⟨nm, bs, mro, ns, qn, hd, sn, sub, ab, col, dl⟩ := cd
      have b3 : dl = false := by
        have q : (!dl) = true := a3
        cases dl
        · rfl
        · cases q
      have b4 : hd = true := a4
      dsimp only at hm
      subst hm a1 a2 b3 b4
      have hsl : sl = #[k0, k1, k2, k3, some (.builtin "ValueError.__new__"), k5] := by
        obtain ⟨l⟩ := sl
        simp only at hs
        rw [hs]
      subst hsl
      exact ⟨nm, qn, ns, bs, bm, sn, sub, ab, col, dd, k0, k1, k2, k3, k5, ho, a5⟩
    · cases h1
  · cases h1
/-- a def that closes over its class: its address, parts, the class, the file of its code -/
structure Xf where
  cls : Str
  qual : Str
  params : Arguments
  body : List Stmt
  scope : Scope
def iniA (K : PySem.W.Frag) (c : Str) : Addr := match PySem.W.findIn K (.ref (He.ga K c)) "__init__" with
  | some (some (.ref p)) => p
  | _ => 0
def fnAtX (K : PySem.W.Frag) (a : Addr) : He.FnW := match K.lookup a with
  | some ⟨_, _, .func fd, _⟩ => some (fd.name, fd.qualname, fd.params, fd.body, fd.scope, fd.globals, [], fd.builtins)
  | _ => none
def Xf.val (d : Xf) : He.FnW := some ("__init__", d.qual, d.params, .stmts d.body, d.scope, mainGlobals, [], builtinsNs)
def celB (K : PySem.W.Frag) (cc C : Addr) : Bool := match K.lookup cc with
  | some ⟨_, _, .cell (some (.ref C')), _⟩ => decide (C' = C)
  | _ => false
def codB (K : PySem.W.Frag) (cda : Addr) (file : Str) : Bool := match K.lookup cda with
  | some ⟨_, _, .fields vs, _⟩ => (match (vs[2]? : Option Value) with
    | some (.str f _) => decide (f = file)
    | _ => false)
  | _ => false
def cloB (K : PySem.W.Frag) (C : Addr) : List (Str × Addr) → Bool
  | [(n, cc)] => decide (n = "__class__") && celB K cc C
  | _ => false
def cdeB (K : PySem.W.Frag) (file qual : Str) : Value → Bool
  | .ref cda => PySem.W.codeIn K (.ref cda) qual && codB K cda file
  | _ => false
def isNoneV : Value → Bool
  | .none => true
  | _ => false
def supB (file : Str) (d : Xf) : Tst := fun K => oexB d.cls K && (decide (PySem.W.ks_superIn K (He.ga K d.cls) (He.ga K d.cls) "__init__" = some (some (.builtin "ValueError.__init__"))) && (decide (PySem.W.subIn K (.ref (He.ga K d.cls)) (.type "ValueError") = some true) &&
  (decide (PySem.W.mroIn K (He.ga K d.cls) (.ref (He.ga K d.cls)) = some true) && (He.eqO (PySem.W.nsIn K cStatics "thirdparty.any") (some none) && (He.eqO (PySem.W.findIn K (.ref (He.ga K d.cls)) "__init__") (some (some (.ref (iniA K d.cls)))) &&
  (decide (PySem.W.typeIn K (.ref (iniA K d.cls)) = some (.type "function")) && (match K.lookup (iniA K d.cls) with
    | some ⟨_, _, .func fd, _⟩ => isNoneV fd.defaults && (cloB K (He.ga K d.cls) fd.closure && cdeB K file d.qual fd.code)
    | _ => false)))))))
structure XfOk (P : Program) (K : PySem.W.Frag) (d : Xf) : Prop where
  sup : ∃ fd, SupF P K (He.ga K d.cls) (iniA K d.cls) d.qual d.params d.body d.scope fd ∧ (fd.defaults = .none)
  ini : PySem.W.findIn K (.ref (He.ga K d.cls)) "__init__" = some (some (.ref (iniA K d.cls)))
  tyI : PySem.W.typeIn K (.ref (iniA K d.cls)) = some (.type "function")
theorem xf_of {P : Program} {K : PySem.W.Frag} {d : Xf} {file : Str} (hP : P.main.file = file) (htop : (P.main.scope.names.lookup ("super" : Str)).isSome = false) (e : fnAtX K (iniA K d.cls) = d.val) (h : supB file d K = true) : XfOk P K d := by
  obtain ⟨h1, h⟩ := He.ba h
  obtain ⟨h2, h⟩ := He.ba h
  obtain ⟨h3, h⟩ := He.ba h
  obtain ⟨h4, h⟩ := He.ba h
  obtain ⟨h5, h⟩ := He.ba h
  obtain ⟨h6, h⟩ := He.ba h
  obtain ⟨h7, h⟩ := He.ba h
  refine ⟨?_, He.eqO_ok h6, of_decide_eq_true h7⟩
  unfold fnAtX at e
  cases q : K.lookup (iniA K d.cls) with
  | none =>
    rw [q] at h
    cases h
  | some o =>
    obtain ⟨oc, od, dt, osl⟩ := o
    rw [q] at h e
    cases dt with
    | func fd =>
      obtain ⟨a1, a2, a3, a4, a5, a6, a7, a8, a9, b1, b2, b3, b4, b5, b6⟩ := fd
      have e2 : (some (a1, a2, a3, a4, a5, a6, ([] : List (Str × Addr)), b6) : He.FnW) = some (("__init__" : Str), d.qual, d.params, .stmts d.body, d.scope, mainGlobals, [], builtinsNs) := e
      simp only [Option.some.injEq, Prod.mk.injEq] at e2
      obtain ⟨z1, z2, z3, z4, z5, z6, _, z8⟩ := e2
      subst z1 z2 z3 z4 z5 z6 z8
      have h : (isNoneV a8 && (cloB K (He.ga K d.cls) a7 && cdeB K file d.qual b4)) = true := h
      obtain ⟨k1, h⟩ := He.ba h
      obtain ⟨k2, k3⟩ := He.ba h
      have k1 : a8 = .none := by
        unfold isNoneV at k1
        split at k1
        · rfl
        · cases k1
      subst k1
      unfold cloB at k2
      split at k2
      · rename_i n cc0
        obtain ⟨c1, c2⟩ := He.ba k2
        have c1 := of_decide_eq_true c1
        subst c1
        unfold celB at c2
        split at c2
        · rename_i cl cld C' csl hcc
          have c2 := of_decide_eq_true c2
          subst c2
          unfold cdeB at k3
          split at k3
          · rename_i cda
            obtain ⟨c3, c4⟩ := He.ba k3
            unfold codB at c4
            split at c4
            · rename_i ccl cdd vs ccs hcode
              split at c4
              · rename_i ff tf hv
                have c4 := of_decide_eq_true c4
                subst c4
                exact ⟨_, ⟨⟨oc, od, a9, b1, b2, b3, cda, b5, osl, _, cl, cld, csl, ccl, cdd, vs, ccs, _, tf, rfl, q, c3, hcc, hcode, hv, by rw [hP]; exact beq_self_eq_true _⟩, oex_of h1, of_decide_eq_true h2, of_decide_eq_true h3, of_decide_eq_true h4, He.eqO_ok h5, htop⟩, rfl⟩
              · cases c4
            · cases c4
          · cases k3
        · cases c2
      · cases k2
    | _ => cases h
/-! ### the hook with such makings -/
def obsX (file : Str) (ex : List Tst) (fn : List Df) (xs : List Xf) (K : PySem.W.Frag) : He.AlD := ((ex.all fun e => e K) && ((fn.all fun d => d.fine K) && xs.all fun d => supB file d K), (fn.map fun d => fnAt K (d.at_ K)) ++ xs.map fun d => fnAtX K (iniA K d.cls))
def SaysX (file : Str) (ex : List Tst) (fn : List Df) (xs : List Xf) (K : PySem.W.Frag) : Prop := obsX file ex fn xs K = (true, fn.map Df.val ++ xs.map Xf.val)
/-- a table of a code object lies in no fragment: it grows -/
def noTabO : Option Obj → Bool
  | some ⟨.none, _, .fields vs, _⟩ => !vs.isEmpty
  | _ => true
/-- the addresses that are not in the set s yet (bits of a number), and the set with them -/
def newX : List Addr → Nat → List Addr × Nat
  | [], s => ([], s)
  | a :: l, s => match Nat.testBit s a with
    | true => newX l s
    | false => match newX l (s ||| (1 <<< a)) with
      | (r, s2) => (a :: r, s2)
/-- n steps further from fr -/
def growX (g : Addr → Option Obj) : Nat → List Addr → Nat → List Addr
  | 0, _, _ => []
  | n + 1, fr, s => match newX (fr.flatMap fun a => match g a with
      | some o => He.refsD o
      | none => []) s with
    | (r, s2) => r ++ growX g n r s2
def asX (g : Addr → Option Obj) (n : Nat) : List Addr := (mainGlobals :: growX g n [mainGlobals] (1 <<< mainGlobals) ++ [cStatics]).filter fun a => noTabO (g a)
def obsRX (n : Nat) (file : Str) (ex : List Tst) (fn : List Df) (xs : List Xf) (g : Addr → Option Obj) : He.AlD := obsX file ex fn xs (He.frG g (asX g n))
def hookX (n : Nat) (file : Str) (ex : List Tst) (fn : List Df) (xs : List Xf) : PySem.W.Hook where
  α := He.AlD
  obs := fun s => obsRX n file ex fn xs s.heap.get?
  val := fun _ => (true, fn.map Df.val ++ xs.map Xf.val)
  says := fun _ h => ∃ K : PySem.W.Frag, K.In h ∧ SaysX file ex fn xs K
  of := fun _ _ e => ⟨_, He.frG_in, e⟩
  keeps := fun _ _ _ ⟨K, hK, c⟩ k => ⟨K, PySem.W.Frag.In.keeps hK k, c⟩
theorem obsRX_eq {n : Nat} {file : Str} {ex : List Tst} {fn : List Df} {xs : List Xf} {g : Addr → Option Obj} {s : Shared} (h : ∀ a, g a = s.heap.get? a) : obsRX n file ex fn xs g = (hookX n file ex fn xs).obs s := by
  have e : g = s.heap.get? := funext h
  subst e
  rfl
section
variable {file : Str} {ex : List Tst} {fn : List Df} {xs : List Xf} {K : PySem.W.Frag}
theorem SaysX.fact (c : SaysX file ex fn xs K) (i : Nat) {e : Tst} (h : ex[i]? = some e := by rfl) : e K = true :=
  List.all_eq_true.mp (He.ba (show ((ex.all fun e => e K) && ((fn.all fun d => d.fine K) && xs.all fun d => supB file d K)) = true from congrArg (fun z : He.AlD => z.1) c)).1 e (List.mem_of_getElem? h)
theorem app_maps {β : Type} {a a' b b' : List β} (h : a ++ b = a' ++ b') (hl : a.length = a'.length) : a = a' ∧ b = b' := List.append_inj h hl
theorem SaysX.def_ (c : SaysX file ex fn xs K) (i : Nat) {d : Df} (h : fn[i]? = some d := by rfl) : ∃ fd, FunD K d.name d.qual d.params d.body d.scope [] (d.kws K) (d.at_ K) fd := by
  have f1 := (He.ba (He.ba (show ((ex.all fun e => e K) && ((fn.all fun d => d.fine K) && xs.all fun d => supB file d K)) = true from congrArg (fun z : He.AlD => z.1) c)).2).1
  have f2 : (fn.map fun d => fnAt K (d.at_ K)) ++ (xs.map fun d => fnAtX K (iniA K d.cls)) = fn.map Df.val ++ xs.map Xf.val := congrArg (fun z : He.AlD => z.2) c
  have f2 := (app_maps f2 (by rw [List.length_map, List.length_map])).1
  have f3 : (fn.map fun d => fnAt K (d.at_ K))[i]? = (fn.map Df.val)[i]? := by rw [f2]
  rw [List.getElem?_map, List.getElem?_map, h] at f3
  exact Df.funD (Option.some.inj f3) (List.all_eq_true.mp f1 d (List.mem_of_getElem? h))
theorem SaysX.xf {P : Program} (c : SaysX file ex fn xs K) (hP : P.main.file = file) (htop : (P.main.scope.names.lookup ("super" : Str)).isSome = false) (i : Nat) {d : Xf} (h : xs[i]? = some d := by rfl) : XfOk P K d := by
  have f1 := (He.ba (He.ba (show ((ex.all fun e => e K) && ((fn.all fun d => d.fine K) && xs.all fun d => supB file d K)) = true from congrArg (fun z : He.AlD => z.1) c)).2).2
  have f2 : (fn.map fun d => fnAt K (d.at_ K)) ++ (xs.map fun d => fnAtX K (iniA K d.cls)) = fn.map Df.val ++ xs.map Xf.val := congrArg (fun z : He.AlD => z.2) c
  have f2 := (app_maps f2 (by rw [List.length_map, List.length_map])).2
  have f3 : (xs.map fun d => fnAtX K (iniA K d.cls))[i]? = (xs.map Xf.val)[i]? := by rw [f2]
  rw [List.getElem?_map, List.getElem?_map, h] at f3
  exact xf_of hP htop (Option.some.inj f3) (List.all_eq_true.mp f1 d (List.mem_of_getElem? h))
end
/-! ### facts of exceptions, tables -/
def x0B (c : Str) : Tst := fun K => PySem.W.excIn K (He.ga K c) [.type "ValueError", .type "Exception", .type "BaseException", .type "object"] "ValueError.__new__" && (PySem.W.keepIn K (.ref (He.ga K c)) && (decide (PySem.W.subIn K (.ref (He.ga K c)) (.type "BaseException") = some true) && decide (PySem.W.typeIn K (.ref (He.ga K c)) = some (.type "type"))))
theorem x0_of {X : Cx} {x c : Str} (h : x0B c X.K = true) (hm : X.mg x = some (.ref (He.ga X.K c))) : XMk0 X x c := by
  obtain ⟨h1, h⟩ := He.ba h
  obtain ⟨h2, h⟩ := He.ba h
  obtain ⟨h3, h4⟩ := He.ba h
  exact ⟨h1, h2, of_decide_eq_true h3, of_decide_eq_true h4, hm⟩
def excB (c : Str) : Tst := fun K => He.eqO (PySem.W.findIn K (.ref (He.ga K c)) "__getattribute__") (some (some (.builtin "BaseException.__getattribute__"))) && (He.eqO (PySem.W.findIn K (.ref (He.ga K c)) "__getattr__") (some none) && (decide (PySem.W.subIn K (.ref (He.ga K c)) (.type "BaseException") = some true) &&
  (PySem.W.hasDictIn K (He.ga K c) && (He.eqO (PySem.W.findIn K (.ref (He.ga K c)) "__class__") (some (some (.builtin "object.__class__"))) && (He.eqO (PySem.W.specialIn K (.builtin "object.__class__") "__get__") (some (some (.builtin "getset_descriptor.__get__"))) &&
  (decide (PySem.W.takesIn K (.builtin "object.__class__") = some true) && decide (PySem.W.mroIn K (He.ga K c) (.type "object") = some true)))))))
theorem exc_of {K : PySem.W.Frag} {c : Str} (h : excB c K = true) : ExcC K (He.ga K c) := by
  obtain ⟨h1, h⟩ := He.ba h
  obtain ⟨h2, h⟩ := He.ba h
  obtain ⟨h3, h⟩ := He.ba h
  obtain ⟨h4, h⟩ := He.ba h
  obtain ⟨h5, h⟩ := He.ba h
  obtain ⟨h6, h⟩ := He.ba h
  obtain ⟨h7, h8⟩ := He.ba h
  exact ⟨He.eqO_ok h1, He.eqO_ok h2, of_decide_eq_true h3, h4, He.eqO_ok h5, He.eqO_ok h6, of_decide_eq_true h7, of_decide_eq_true h8⟩
theorem xfc_of {K : PySem.W.Frag} {c : Str} (h : ExcC K (He.ga K c)) : XfC K (He.ga K c) := ⟨h.hg, h.hk, h.hs, h.hd⟩
/-- isinstance of exceptions by a table -/
def isxB (cs : List Str) (tab : List (Str × Bool)) : Tst := fun K => tab.all fun p => decide (PySem.W.kitAny K (.ref (He.ga K p.1)) (cs.map fun c => .ref (He.ga K c)) = some p.2) && (match cs with
  | [d] => decide (PySem.W.kitOne K (.ref (He.ga K p.1)) (.ref (He.ga K d)) = some p.2)
  | _ => true)
theorem lookup_mem {tab : List (Str × Bool)} {c : Str} {b : Bool} (h : tab.lookup c = some b) : (c, b) ∈ tab := PySem.mem_of_lookup h
theorem isx_of {K : PySem.W.Frag} {cs : List Str} {tab : List (Str × Bool)} (h : isxB cs tab K = true) (hc : ∀ p ∈ tab, ExcC K (He.ga K p.1)) : IsXT K cs tab := fun c b e => by
  have q := lookup_mem e
  obtain ⟨h1, h2⟩ := He.ba (List.all_eq_true.mp h (c, b) q)
  refine ⟨hc (c, b) q, of_decide_eq_true h1, fun d hd => ?_⟩
  subst hd
  exact of_decide_eq_true h2
def catB (y : Str) (tab : List (Str × Bool)) : Tst := fun K => tab.all fun p => decide (PySem.W.exmOne K (.ref (He.ga K p.1)) (.ref (He.ga K y)) = some p.2)
theorem cat_of {K : PySem.W.Frag} {y : Str} {tab : List (Str × Bool)} (h : catB y tab K = true) : ∀ c b, tab.lookup c = some b → PySem.W.exmOne K (.ref (He.ga K c)) (.ref (He.ga K y)) = some b := fun c b e =>
  of_decide_eq_true (List.all_eq_true.mp h (c, b) (lookup_mem e))
def tabUB : Tst := fun K => (tabsK K).all fun p => (tabsK K).all fun q => !decide (p.1 = q.1) || decide (p.2 = q.2)
theorem tabU_of {K : PySem.W.Frag} (h : tabUB K = true) : ∀ p ∈ tabsK K, ∀ q ∈ tabsK K, p.1 = q.1 → p.2 = q.2 := fun p hp q hq e => by
  have z := List.all_eq_true.mp (List.all_eq_true.mp h p hp) q hq
  rcases Bool.or_eq_true_iff.mp z with y | y
  · rw [decide_eq_true e] at y
    cases y
  · exact of_decide_eq_true y
/-- the def of the name x at f makes lambdas: its code and table -/
def lamAtB (x : Str) : Tst := fun K => match PySem.W.tabIn K x, K.lookup (He.ga K x) with
  | some (c, _), some ⟨_, _, .func fd, _⟩ => (match fd.code with
    | .ref c' => decide (c' = c)
    | _ => false)
  | _, _ => false
theorem lamAt_of {K : PySem.W.Frag} {x : Str} (h : lamAtB x K = true) : ∃ c P, PySem.W.tabIn K x = some (c, P) ∧ ∀ oc od fd osl, K.lookup (He.ga K x) = some ⟨oc, od, .func fd, osl⟩ → fd.code = .ref c := by
  unfold lamAtB at h
  split at h
  · rename_i c Pp oc od fd osl h1 h2
    refine ⟨c, Pp, h1, fun oc' od' fd' osl' e => ?_⟩
    rw [h2] at e
    cases e
    split at h
    · rename_i c' hc
      rw [hc, of_decide_eq_true h]
    · cases h
  · cases h
/-! ### defs that make lambdas -/
theorem fng_ofL {P : Program} {w : World} {K : PySem.W.Frag} {mg : Str → Option Value} {base : Heap} {x qual : Str} {params : Arguments} {body : List Stmt} {scope : Scope} {dvs : List V} {kws : List (Str × V)} {f : Addr} {fd : FuncData} {N ps : List Str} {k : Nat} {g : Ss} {kp : Bool} {c : Addr}
    (F : FunD K x qual params body scope dvs kws f fd) (S : FnScope N ps scope) (hbi : Binds K fd ps []) (hcode : fd.code = .ref c)
    (hb : ∀ (A : Around) (outer : List Env) (s : Shared) (H : Hp) (E : XK), Ctx P w K mg base N scope k (cxOf (L2.CX P w) P w K mg base N qual scope f (.ref c) A outer s H E) E → (cxOf (L2.CX P w) P w K mg base N qual scope f (.ref c) A outer s H E).A.guards = some [] →
      ∃ ts, ASs K (cxOf (L2.CX P w) P w K mg base N qual scope f (.ref c) A outer s H E) E body ts g) :
    FnG P w K mg base (k + 1) f (bodyM kp ps.length N g) := by
  obtain ⟨oc, od, dV, kV, doc, pm, an, cdv, ct, osl, rfl, lk, hcd, _, _⟩ := F.ex
  have hcode : cdv = .ref c := hcode
  subst hcode
  intro A outer s H us vs Q E hr hgd e0 r h
  have KX : K.In s.heap := e0.mod.kin.keeps fun b o e => (e0.bs b o e).1
  obtain ⟨G, as, ws, ds, W, rs, Pt⟩ := h
  unfold bodyM at Pt
  split at Pt
  · rename_i hl
    refine StX.run_bnd lk hcd S hr e0 (G := fun xs H2 => xs = vs ∧ H2 = H) (fun A' Ex Q' hk => ?_) fun s2 H2 xs ⟨ex, eH⟩ hr' => ?_
    · have z := hbi s us KX (by rw [List.append_nil, ← r.length, ← rs.len]; exact hl)
      rw [List.append_nil] at z
      exact z _ _ _ _ (hk s H vs us e0 Un.refl rfl (fun _ _ z => z) r (by rw [← rs.len]; exact hl) ⟨rfl, rfl⟩)
    · subst ex eH
      have tk : Takes (cxOf (L2.CX P w) P w K mg base N qual scope f (.ref c) A outer s2 H2 E) fun cls d _ H => E cls d H := takes_of rfl rfl rfl rfl
      obtain ⟨ts, hT⟩ := hb A outer s2 H2 E ⟨hr', tk, passes_call tk fun _ _ _ _ z => z, PassesOwn.leaving⟩ hgd
      exact ⟨ts, hT.pe, hT.ev _ ws G H2 as _ _ W (start_rep rs) (fin_post W Pt)⟩
  · exact False.elim Pt
/-- the context of a lambda's body -/
theorem ctx_lam {X : Cx} {A : Around} {outer : List Env} {s : Shared} {H : Hp} {E : XK} {scope : Scope} {f c' : Addr} {k : Nat} {N : List Str} (hr : Room k (A.deeper (lamEnv X scope s.heap.objs.size f c'))) : Ctx X.prog X.w X.K X.mg X.base N scope k (lamCx X A outer s H E scope f c') E :=
  have tk : Takes (lamCx X A outer s H E scope f c') fun cls d _ H => E cls d H := takes_of rfl rfl rfl rfl
  ⟨hr, tk, passes_call tk fun _ _ _ _ z => z, PassesOwn.leaving⟩
end RL
set_option Elab.async false
set_option linter.all false
set_option maxRecDepth 100000
set_option maxHeartbeats 4000000
/-! RL26: xs.pop(), xs * n. -/
namespace RL
open PySem PySem.Spec PyProof.Rows L2
section
variable {K : PySem.W.Frag} {X : Cx} {E : XK} {o : Expr} {to : TE} {so : Se} {r : V → List V → Hp → VK → Prop} {f : Fm} {name : Str} {id T : String} {apos pos : Pos}
theorem ae_bm0 (pa : PlainAttrs T) (slot : Slot T name id) (hty : typeOf (.builtin id) = pure (.type "method_descriptor")) (hm : MtR X id r) (h : MeD K T r f) (ho : AE K X E o to so)
    (hbase : attributeBase o name X.env (eval o X.env) = eval o X.env := by rfl) (hline : (apos.endLine == pos.line) = true := by rfl) :
    AE K X E (.Call (.Attribute o name apos) [] [] pos) (tBM0 K T r to) (sMB T f so sNil) := by
  have e0 := ho.hK
  subst e0
  refine ⟨rfl, pe_bm0 pa slot hty hm ho.pe hbase hline, fun ρ ws G H as σ Q W S P => ho.ev ρ ws G H as σ _ W S (Post.bind P fun d ws1 x G1 H1 as1 r1 W1 rx P1 => ?_)⟩
  split at P1
  · rename_i ht
    refine ⟨isTy_ok W1 rx ht, ?_⟩
    have P1 : Post X.K E (Rep X.K) G1 H1 as1 (match f d [] ws1 with
      | some p => R.ok p.1 p.2
      | none => .bad) Q := P1
    split at P1
    · rename_i p hp
      exact h ws1 G1 H1 as1 x [] d [] p.1 p.2 Q W1 rx Reps.nil hp fun v G' H' as' q w rep => P1 v G' H' as' q w rep
    · exact False.elim P1
  · exact False.elim P1
end
section
variable {K : PySem.W.Frag}
def fmPop0 : Fm := fun d ds ws => match d, ds with
  | .cell n, [] => (match ws[n]? with
    | some (.lst l) => l[l.length - 1]?.map fun y => (y, ws.set n (.lst l.dropLast))
    | _ => none)
  | _, _ => none
theorem Reps.dropLast {as : List Addr} {G : Hp} {l : List D} {vs : List V} (h : Reps K as G l vs) : Reps K as G l.dropLast vs.dropLast := by
  induction l generalizing vs with
  | nil =>
    rw [h.unnil]
    exact Reps.nil
  | cons d ds ih =>
    obtain ⟨v, r, e, h1, h2⟩ := h.uncons
    subst e
    cases ds with
    | nil =>
      rw [h2.unnil]
      exact Reps.nil
    | cons d' ds' =>
      obtain ⟨v', r', e', h3, h4⟩ := h2.uncons
      subst e'
      exact Reps.cons h1 (ih h2)
theorem md_pop0 : MeD K "list" rPop fmPop0 := by
  intro ws G H as x xs d ds y ws' Q W rx rs e k
  unfold fmPop0 at e
  split at e
  · rename_i n
    split at e
    · rename_i l q
      obtain ⟨u, h1, h2⟩ := Option.map_eq_some_iff.mp e
      cases h2
      obtain ⟨a, vs, e1, e2, e3, e4⟩ := cell_lst W q rx
      obtain ⟨v, g1, g2⟩ := e4.get h1
      refine ⟨a, vs, v, e1, rs.unnil, e3, by rw [← e4.len]; exact g1, ?_⟩
      exact k v G _ as (Rch.put (List.mem_of_getElem? e2)) (W.put e2 q (fun z => by cases z) ⟨_, rfl, e4.dropLast⟩) g2
    · cases e
  · cases e
/-- xs * n, a new list that is never written -/
def fRep : List Ce → D → D → Option D := fun ws x y => match y with
  | .int k => (lstOf ws x).bind fun l => if 0 ≤ k ∧ k ≤ 1000 ∧ l.length ≤ 100 then some (.lst (List.replicate k.toNat l).flatten) else none
  | _ => none
theorem Reps.rep {as : List Addr} {G : Hp} {l : List D} {vs : List V} (h : Reps K as G l vs) : ∀ k : Nat, Reps K as G (List.replicate k l).flatten (List.replicate k vs).flatten
  | 0 => Reps.nil
  | k + 1 => by
    rw [List.replicate_succ, List.replicate_succ, List.flatten_cons, List.flatten_cons]
    exact h.app (Reps.rep h k)
theorem od_rep : OpD K rRep fRep := by
  intro ws G H as x y d e z Q W rx ry ef k
  unfold fRep at ef
  split at ef
  · rename_i n
    obtain ⟨l, h1, h2⟩ := Option.bind_eq_some_iff.mp ef
    split at h2
    · rename_i hk
      cases h2
      obtain ⟨a, vs, e1, e2, e3⟩ := lst_rep W h1 rx
      simp only [Rep] at ry
      have hl : vs.length * n.toNat ≤ 100 * 1000 := Nat.mul_le_mul (by rw [← e3.len]; exact hk.2.2) (by omega)
      refine ⟨a, n, vs, e1, ry, e2, by omega, by omega, small5 (by omega), fun p hp => ?_⟩
      have R := Rch.new (as := as) (o := HO.lst (List.replicate n.toNat vs).flatten) W.le hp
      refine k (.ref p) _ _ as R (W.new hp) ?_
      simp only [Rep]
      exact ⟨p, _, rfl, upd_same, (e3.rep _).up (List.prefix_refl _) R.up⟩
    · cases h2
  · cases ef
end
end RL
set_option Elab.async false
set_option linter.all false
set_option maxRecDepth 100000
set_option maxHeartbeats 4000000
/-! RL27: plain values of bounded depth; the end of a def by an exception. -/
namespace RL
open PySem L2
/-- a plain value of depth k at most -/
def Sh (d : D) (k : Nat) : Prop := ∃ p, toPy0 d = some p ∧ p.canLay0 = true ∧ p.depth ≤ k
def ShL (l : List D) (k : Nat) : Prop := ∃ ps, toPys0 l = some ps ∧ PyData.canLayAll0 ps = true ∧ PyData.depthAll ps ≤ k ∧ ps.length = l.length
theorem Sh.int (i : Int) (k : Nat) : Sh (.int i) k := ⟨_, rfl, rfl, Nat.zero_le _⟩
theorem Sh.bl (b : Bool) (k : Nat) : Sh (.bl b) k := ⟨_, rfl, rfl, Nat.zero_le _⟩
theorem Sh.non (k : Nat) : Sh .non k := ⟨_, rfl, rfl, Nat.zero_le _⟩
theorem Sh.str {s : Str} (h : PyData.strOk s = true) (k : Nat) : Sh (.str s) k := ⟨_, rfl, h, Nat.zero_le _⟩
theorem ShL.nil (k : Nat) : ShL [] k := ⟨[], rfl, rfl, Nat.zero_le _, rfl⟩
theorem ShL.cons {d : D} {l : List D} {k : Nat} (h1 : Sh d k) (h2 : ShL l k) : ShL (d :: l) k := by
  obtain ⟨p, a1, a2, a3⟩ := h1
  obtain ⟨ps, b1, b2, b3, b4⟩ := h2
  refine ⟨p :: ps, by simp [toPys0, a1, b1], by simp [PyData.canLayAll0, a2, b2], ?_, by simp [b4]⟩
  simp only [PyData.depthAll]
  omega
theorem ShL.map {α : Type} {f : α → D} {k : Nat} : ∀ {l : List α}, (∀ a ∈ l, Sh (f a) k) → ShL (l.map f) k
  | [], _ => ShL.nil k
  | a :: l, h => ShL.cons (h a (by simp)) (ShL.map fun b hb => h b (List.mem_cons_of_mem _ hb))
theorem ShL.app {k : Nat} : ∀ {l m : List D}, ShL l k → ShL m k → ShL (l ++ m) k
  | [], m, _, h => h
  | a :: l, m, h1, h2 => by
    obtain ⟨ps, b1, b2, b3, b4⟩ := h1
    simp only [toPys0] at b1
    cases e1 : toPy0 a with
    | none => rw [e1] at b1; cases b1
    | some p =>
      cases e2 : toPys0 l with
      | none => rw [e1, e2] at b1; cases b1
      | some qs =>
        rw [e1, e2] at b1
        cases b1
        simp only [PyData.canLayAll0, Bool.and_eq_true] at b2
        simp only [PyData.depthAll] at b3
        exact ShL.cons ⟨p, e1, b2.1, by omega⟩ (ShL.app ⟨qs, e2, b2.2, by omega, by simpa using b4⟩ h2)
theorem Sh.tup {l : List D} {k : Nat} (h : ShL l k) : Sh (.tup l) (k + 1) := by
  obtain ⟨ps, b1, b2, b3, b4⟩ := h
  refine ⟨.tuple ps, by simp [toPy0, b1], by simp [PyData.canLay0, b2], ?_⟩
  simp only [PyData.depth]
  omega
theorem Sh.lst {l : List D} {k : Nat} (h : ShL l k) : Sh (.lst l) (k + 1) := by
  obtain ⟨ps, b1, b2, b3, b4⟩ := h
  refine ⟨.list ps, by simp [toPy0, b1], by simp [PyData.canLay0, b2], ?_⟩
  simp only [PyData.depth]
  omega
theorem shaped_of {p : PyData} {k : Nat} (h1 : p.canLay0 = true) (h2 : p.depth ≤ k) (hk : k ≤ 64) : SeqAt.shaped p = true := by
  unfold SeqAt.shaped
  rw [h1, Bool.true_and]
  exact decide_eq_true (by omega)
theorem eqv_nil (ps : List PyData) : PyData.eqv (.list ps) (.list []) = decide (ps = []) := by
  cases ps <;> rfl
/-- is the tracked list empty -/
theorem eq_nil_cell {ws : List Ce} {n : Nat} {l : List D} {k : Nat} (h : ws[n]? = some (.lst l)) (hs : ShL l k) (hk : k ≤ 63) : fEqD ws (.cell n) (.lst []) = some (.bl (decide (l = []))) := by
  obtain ⟨ps, b1, b2, b3, b4⟩ := hs
  have s1 : SeqAt.shaped (.list ps) = true := shaped_of (k := k + 1) (by simp [PyData.canLay0, b2]) (by simp only [PyData.depth]; omega) (by omega)
  have s2 : SeqAt.shaped (.list []) = true := by decide
  have e : decide (ps = []) = decide (l = []) := by
    apply decide_eq_decide.mpr
    rw [← List.length_eq_zero_iff, ← List.length_eq_zero_iff, b4]
  simp only [fEqD, toPy, toPy0, toPys0, h, b1, Option.map_some, Option.bind_some, s1, s2, Bool.and_self, if_true, eqv_nil, e]
mutual
theorem eqv_self : ∀ p : PyData, p.canLay0 = true → PyData.eqv p p = true
  | .none, _ => by simp [PyData.eqv]
  | .bool b, _ => by simp [PyData.eqv]
  | .int i, _ => by simp [PyData.eqv]
  | .str s, _ => by simp [PyData.eqv]
  | .list ps, h => by simpa [PyData.eqv] using eqvAll_self ps h
  | .tuple ps, h => by simpa [PyData.eqv] using eqvAll_self ps h
  | .dict _, h => by cases h
theorem eqvAll_self : ∀ ps : List PyData, PyData.canLayAll0 ps = true → PyData.eqvAll ps ps = true
  | [], _ => by simp [PyData.eqvAll]
  | p :: ps, h => by
    simp only [PyData.canLayAll0, Bool.and_eq_true] at h
    simp [PyData.eqvAll, eqv_self p h.1, eqvAll_self ps h.2]
end
theorem Sh.shaped {d : D} {k : Nat} (h : Sh d k) (hk : k ≤ 64) : ∃ p, toPy0 d = some p ∧ SeqAt.shaped p = true ∧ p.canLay0 = true := by
  obtain ⟨p, a1, a2, a3⟩ := h
  exact ⟨p, a1, shaped_of a2 a3 hk, a2⟩
theorem toPy_D {ws : List Ce} {d : D} {p : PyData} (h : toPy0 d = some p) : toPy ws d = some p := by
  cases d <;> first | exact h | cases h
/-- equal to itself -/
theorem eq_self_D {ws : List Ce} {d : D} {k : Nat} (h : Sh d k) (hk : k ≤ 64) : fEqD ws d d = some (.bl true) := by
  obtain ⟨p, a1, a2, a3⟩ := h.shaped hk
  simp only [fEqD, toPy_D a1, Option.bind_some, a2, Bool.and_self, if_true, eqv_self p a3]
/-- the tracked list is the written one -/
theorem eq_cell_self {ws : List Ce} {n : Nat} {l : List D} {k : Nat} (hn : ws[n]? = some (.lst l)) (h : ShL l k) (hk : k ≤ 63) : fEqD ws (.cell n) (.lst l) = some (.bl true) := by
  have h2 := Sh.lst h
  obtain ⟨p, a1, a2, a3⟩ := h2.shaped (by omega)
  have a4 : toPy ws (.cell n) = some p := by
    simp only [toPy, hn]
    exact a1
  simp only [fEqD, a4, toPy_D a1, Option.bind_some, a2, Bool.and_self, if_true, eqv_self p a3]
/-! ### the end of a def by an exception -/
theorem fin_exL {ws ws' : List Ce} {e : Ex} (h : ws'.length = ws.length) : fin false ws (.ex e ws') = .ex e ws' := by
  simp [fin, flR, frzR, h, R.bind]
theorem cut_appX (ws xs : List Ce) : cutOk ws (ws ++ xs) := fun i hi => .inl (by rw [List.getElem?_append_left hi])
theorem fin_exA {ws xs : List Ce} {e : Ex} (h : belows ws.length e.l = true) : fin false ws (.ex e (ws ++ xs)) = .ex e ws := by
  by_cases h0 : xs = []
  · subst h0
    rw [List.append_nil]
    exact fin_exL rfl
  · have : (ws ++ xs).length ≠ ws.length := by
      have := List.length_pos_iff.mpr h0
      rw [List.length_append]
      omega
    simp only [RL.fin, flR, R.bind, frzR, this, if_false, h, cut_appX, and_self, if_true, List.take_left, Bool.false_eq_true]
end RL
set_option Elab.async false
set_option linter.all false
set_option maxRecDepth 100000
set_option maxHeartbeats 4000000
/-! RL28: {} , repr of plain values, operators of own classes with operands of several types, calls by keywords alone. -/
namespace RL
open PySem PySem.Spec PyProof.Rows L2
variable [kd : KdC]
section
variable {K : PySem.W.Frag} {X : Cx} {E : XK}
/-! ### an empty dict -/
def sDct0 : Se := fun _ ws => .ok (.dct [] []) ws
theorem ae_dct0 {pos : Pos} (hK : X.K = K := by rfl) : AE K X E (.Dict [] [] pos) tDNewK sDct0 := by
  refine ⟨hK, pe_dnewK, fun ρ ws G H as σ Q W S P p hp => ?_⟩
  have P : ∀ v G' H' as', Rch G H as G' H' as' → Wd K G' H' as' ws → Rep K as' G' (.dct [] []) v → Q v H' := P
  refine P _ (upd G p (.dK [])) _ as (Rch.new W.le hp) (W.new hp) ?_
  simp only [Rep]
  exact ⟨p, [], rfl, upd_same, rfl, Reps.nil⟩
/-! ### types of more values -/
def tyM : D → Option String
  | .non => some "NoneType"
  | .int _ => some "int"
  | .tup _ => some "tuple"
  | .str _ => some "str"
  | .bl _ => some "bool"
  | .lst _ => some "list"
  | .dct _ _ => some "dict"
  | _ => none
theorem tyM_looks {pins : List (Addr × Obj)} {s : Shared} {σ : L2.St} {H G : Hp} {as : List Addr} {ws : List Ce} {d : D} {x : V} {u : Value} {T : String} {M : Model} (I : Inv X pins σ H s) (rx : RelV x u) (W : Wd X.K G H as ws) (r : Rep X.K as G d x) (e : tyM d = some T) :
    PySem.W.Looks M s.heap (typeOf u) (.type T) := by
  cases d <;> simp only [tyM] at e <;> cases e
  case non =>
    simp only [Rep] at r
    subst r
    obtain rfl : u = Value.none := rx
    exact PySem.W.Looks.of_pure rfl
  case int i => exact tyN_looks I rx W r rfl
  case bl i => exact tyN_looks I rx W r rfl
  case str i => exact tyN_looks I rx W r rfl
  case tup l => exact tyN_looks I rx W r rfl
  case lst l =>
    simp only [Rep] at r
    obtain ⟨a, vs, e1, e2, e3⟩ := r
    subst e1
    obtain rfl : u = Value.ref a := rx
    obtain ⟨its, _, ⟨o, n, ho, hc, _⟩, _⟩ := I.list (.inl (.inl (W.le _ _ e2)))
    exact hc ▸ (PySem.W.Looks.ld ho).andThen .now
  case dct ks l =>
    simp only [Rep] at r
    obtain ⟨a, vs, e1, e2, e3⟩ := r
    subst e1
    obtain rfl : u = Value.ref a := rx
    obtain ⟨_, _, vs', _, o, es, ep, ho, hx, _⟩ := dk_of I.hok (W.le _ _ e2)
    exact hx.1 ▸ (PySem.W.Looks.ld ho).andThen .now
/-! ### x op y by x's method, y of several types -/
def rOwnL (K : PySem.W.Frag) (E : XK) (c : Str) (m : Mf) (Ts : List String) : R2 := fun x y H Q => ∃ G as ws dx dy, Wd K G H as ws ∧ Rep K as G dx x ∧ Rep K as G dy y ∧ isIns c ws dx = true ∧ (∃ T ∈ Ts, tyM dy = some T) ∧ Post K E (Rep K) G H as (m [dx, dy] ws) Q
def sOwnL (c : Str) (m : Mf) (Ts : List String) (a b : Se) : Se := fun ρ ws => (a ρ ws).bind fun x ws1 => (b ρ ws1).bind fun y ws2 => if isIns c ws2 x = true ∧ (Ts.any fun T => decide (tyM y = some T)) = true then m [x, y] ws2 else .bad
theorem evOwnL {ta tb : TE} {a b : Se} {c : Str} {m : Mf} {Ts : List String} (ha : EvE K E ta a) (hb : EvE K E tb b) : EvE K E (tOp (rOwnL K E c m Ts) ta tb) (sOwnL c m Ts a b) := fun ρ ws G H as σ Q W S P => by
  refine ha ρ ws G H as σ _ W S (Post.bind P fun x ws1 v G1 H1 as1 r1 W1 rx P1 => ?_)
  refine hb ρ ws1 G1 H1 as1 σ _ W1 (S.up r1.pre r1.up) (Post.bind P1 fun y ws2 u G2 H2 as2 r2 W2 ry P2 => ?_)
  split at P2
  · rename_i hi
    obtain ⟨T, h1, h2⟩ := List.any_eq_true.mp hi.2
    exact ⟨G2, as2, ws2, x, y, W2, rx.up r2.pre r2.up, ry, hi.1, ⟨T, h1, of_decide_eq_true h2⟩, P2⟩
  · exact False.elim P2
/-- what an operator needs of the other operand's type -/
def BinT (K : PySem.W.Frag) (c : Str) (op : Operator) (T : String) : Prop := PySem.W.findIn K (.type T) (PySem.dunder op.info.2) = some ((PySem.W.findIn K (.type T) (PySem.dunder op.info.2)).getD none) ∧ PySem.W.findIn K (.type T) (dunderR op.info.2) = some ((PySem.W.findIn K (.type T) (dunderR op.info.2)).getD none) ∧ PySem.W.subIn K (.type T) (.ref (He.ga K c)) = some false
structure BinTs (K : PySem.W.Frag) (c : Str) (op : Operator) (Ts : List String) : Prop where
  sf : PySem.W.selfFirst K (He.ga K c) = true
  at2 : PySem.W.findIn K (.ref (He.ga K c)) (dunderR op.info.2) = some none
  ts : ∀ T ∈ Ts, BinT K c op T
def binsB (c : Str) (Ts : List String) (op : Operator) : Tst := fun K => PySem.W.selfFirst K (He.ga K c) && (He.eqO (PySem.W.findIn K (.ref (He.ga K c)) (dunderR op.info.2)) (some none) && Ts.all fun T => someB (PySem.W.findIn K (.type T) (PySem.dunder op.info.2)) &&
  (someB (PySem.W.findIn K (.type T) (dunderR op.info.2)) && decide (PySem.W.subIn K (.type T) (.ref (He.ga K c)) = some false)))
theorem bins_of {c : Str} {Ts : List String} {op : Operator} (h : binsB c Ts op K = true) : BinTs K c op Ts := by
  obtain ⟨h1, h2⟩ := He.ba h
  obtain ⟨h3, h4⟩ := He.ba h2
  refine ⟨h1, He.eqO_ok h3, fun T hT => ?_⟩
  obtain ⟨h5, h6⟩ := He.ba (List.all_eq_true.mp h4 T hT)
  obtain ⟨h7, h8⟩ := He.ba h6
  exact ⟨some_of h5, some_of h7, of_decide_eq_true h8⟩
theorem op_ownL {op : Operator} {c : Str} {m : Mf} {k : Nat} {Ts : List String} (dn : Dun X k E c (PySem.dunder op.info.2) m) (hr : Room k X.A) (B : BinTs X.K c op Ts) : OpR X (binaryOp op) (rOwnL X.K E c m Ts) := by
  intro pins s σ H x y v u Q I rx ry h
  obtain ⟨G, as, ws, dx, dy, W, r1, r2, hi, ⟨T, hT, ht⟩, P⟩ := h
  obtain ⟨f, fd, ps, F, hs, hf, _, hb⟩ := dn.ok
  obtain ⟨a, e1, e2, ox, od, J⟩ := isIns_two I rx W r1 hi
  subst e1 e2
  obtain ⟨mm, hF⟩ := I.fr
  obtain ⟨t1, t2, sub⟩ := B.ts T hT
  have h : spM X.K m [.ref a, y] H Q E := ⟨G, as, ws, [dx, dy], W, Reps.cons r1 (Reps.one r2), P⟩
  have z := own_run F hb dn.px (A := X.A) (us := [.ref a, u]) ⟨hr, rfl⟩ I (.cons (show RelV (V.ref a) (Value.ref a) from rfl) (.cons ry .nil)) h
  refine bin_own hF I.ok.mod.kin J (tyM_looks I ry W r2 ht) B.sf hs hf B.at2 (.inl rfl) t1 t2 sub (wpAny_mono z (fun r s' hz => ?_) fun _ _ q => q)
  obtain ⟨zv, H', I', rz, q⟩ := hz
  cases zv <;> cases r <;> first | exact ⟨_, H', I', rz, q⟩ | exact False.elim rz | (obtain ⟨_, rz⟩ := rz; cases rz) | cases rz
theorem ae_binOL {op : Operator} {a b : Expr} {ta tb : TE} {sa sb : Se} {c : Str} {m : Mf} {k : Nat} {pos : Pos} {Ts : List String} (dn : Dun X k E c (PySem.dunder op.info.2) m) (hr : Room k X.A) (ha : AE K X E a ta sa) (hb : AE K X E b tb sb) (B : BinTs X.K c op Ts) :
    AE K X E (.BinOp a op b pos) (tOp (rOwnL K E c m Ts) ta tb) (sOwnL c m Ts sa sb) := by
  have e := ha.hK
  subst e
  exact ⟨rfl, pe_op (op_ownL dn hr B) ha.pe hb.pe, evOwnL ha.ev hb.ev⟩
/-! ### repr -/
def toPyR (ws : List Ce) : D → Option PyData
  | .dct [] [] => some (.dict [])
  | d => (toPy ws d).bind fun p => if p.hasDict = false then some p else none
def gReprA : List Ce → D → Option D := fun ws d => (toPyR ws d).bind fun p => if p.showable = true ∧ p.depth ≤ 60 ∧ p.shown.length ≤ 100000 then some (.str p.shown) else none
def rReprA (K : PySem.W.Frag) : List V → Hp → VK → Prop := fun xs H Q => ∃ v p, xs = [v] ∧ ((Dp K H v p ∧ p.hasDict = false) ∨ ∃ a, v = .ref a ∧ H a = some (.dK []) ∧ p = .dict []) ∧ p.showable = true ∧ p.depth ≤ 60 ∧ p.shown.length ≤ 100000 ∧ Q (.str p.shown) H
theorem call_reprA (hg : X.A.guards = some []) (hu : X.A.units + 65 < cLine) : CallR X (.builtin "repr") (rReprA X.K) := by
  intro pins s σ H xs us Q I rv h
  obtain ⟨v, p, rfl, hd, h1, h3, h4, q⟩ := h
  obtain ⟨u, rfl, ru⟩ := rv.one
  have fin : ∀ {a : Addr} {as : List Addr}, u = .ref a → Reads s.heap (.ref a) p as → (p.hasDict = true → sysModules ∉ as) → wpAny (model X.prog X.w) X.A (call (.builtin "repr") [u]) (EP X pins σ Q) X.xe s := fun {a as} e t1 hm => by
    subst e
    exact repr_of_reads' t1 h1 hm hg (by omega) (fun _ _ e => e) (fun h' u tk hk => ⟨.str p.shown, H, I.kept hk, ⟨_, rfl⟩, q⟩) (small5 h4)
  rcases hd with ⟨hd, hn⟩ | ⟨a, rfl, hh, rfl⟩
  · cases p with
    | none =>
      cases hd
      obtain rfl : u = Value.none := ru
      exact PySem.P.repr_of_none ⟨.str _, H, I.tok _, ⟨_, rfl⟩, q⟩
    | bool b =>
      cases hd
      obtain rfl : u = Value.bool b := ru
      exact PySem.P.repr_of_bool ⟨.str _, H, I.tok _, ⟨_, rfl⟩, q⟩
    | int i =>
      cases hd
      obtain ⟨t, rfl⟩ := ru
      have hz : i.natAbs.log2 < 1920 := by simpa [PyData.showable] using h1
      exact PySem.P.repr_of_int hz ⟨.str _, H, I.tok _, ⟨_, rfl⟩, q⟩
    | str x =>
      cases hd
      obtain ⟨t, rfl⟩ := ru
      exact PySem.P.repr_of_str ⟨.str _, H, I.tok _, ⟨_, rfl⟩, q⟩ (small5 h4)
    | list ds =>
      obtain ⟨as, t1⟩ := Dp.reads I _ v u hd ru
      cases hd
      obtain rfl : u = Value.ref _ := ru
      exact fin rfl t1 (PyData.noDict_hsm hn)
    | tuple ds =>
      obtain ⟨as, t1⟩ := Dp.reads I _ v u hd ru
      cases hd
      obtain rfl : u = Value.ref _ := ru
      exact fin rfl t1 (PyData.noDict_hsm hn)
    | dict kvs => cases hd
  · obtain rfl : u = Value.ref a := ru
    obtain ⟨_, hs, vs, kv, o, es, ep, ho, hx, hdt, hko, hp, _⟩ := dk_of I.hok hh
    cases kv
    have e0 : es.toList = [] := by
      cases q : es.toList with
      | nil => rfl
      | cons x r =>
        rw [q] at hp
        cases hp
    refine fin rfl (Reads.dict (as := []) (bs := []) ho hx.1 hdt ?_ ?_) fun _ hm => ?_
    · rw [e0]
      exact .nil
    · rw [e0]
      exact .nil
    · simp at hm
      subst hm
      simp at hs
theorem toPy_D' {ws : List Ce} {G H : Hp} {as : List Addr} {d : D} {v : V} {p : PyData} (W : Wd K G H as ws) (h : toPyR ws d = some p) (r : Rep K as G d v) : (Dp K H v p ∧ p.hasDict = false) ∨ ∃ a, v = .ref a ∧ H a = some (.dK []) ∧ p = .dict [] := by
  unfold toPyR at h
  split at h
  · cases h
    simp only [Rep] at r
    obtain ⟨a, vs, e1, e2, e3, e4⟩ := r
    rw [e4.unnil] at e2
    exact .inr ⟨a, e1, W.le _ _ e2, rfl⟩
  · obtain ⟨q, h1, h2⟩ := Option.bind_eq_some_iff.mp h
    split at h2
    · cases h2
      rename_i hn
      exact .inl ⟨toPy_ok W h1 r, hn⟩
    · cases h2
theorem cd_reprA : CaD K (rReprA K) (fb1 gReprA) := .one fun ws G H as x d z Q W r e k => by
  unfold gReprA at e
  obtain ⟨p, h1, h2⟩ := Option.bind_eq_some_iff.mp e
  split at h2
  · rename_i hh
    cases h2
    exact ⟨x, p, rfl, toPy_D' W h1 r, hh.1, hh.2.1, hh.2.2, k _ (by simp [Rep])⟩
  · cases h2
/-! ### calls by keywords alone -/
variable {es : List Expr} {o : Expr} {to : TE} {so : Se} {tk : TA} {sk : Sa} {kws : List Keyword} {ks : List Str} {m : Mf} {c x mth : Str} {k : Nat} {p pos apos : Pos}
/-- a def at x by positional values, then the keywords ks -/
structure CalA (X : Cx) (k : Nat) (E : XK) (x : Str) (ks : List Str) (m : Mf) : Prop where
  ok : ∃ f, FnA X.prog X.w X.K X.mg X.base k f ks m ∧ X.mg x = some (.ref f) ∧ PySem.W.keepIn X.K (.ref f) = true
  px : Passes (cxk X.prog X.w) X E
structure MetA (X : Cx) (k : Nat) (E : XK) (c mth : Str) (ks : List Str) (m : Mf) : Prop where
  ok : ∃ f, FnA X.prog X.w X.K X.mg X.base k f ks m ∧ Cls X.K (He.ga X.K c) ∧ Meth X.K (He.ga X.K c) mth f
  px : Passes (cxk X.prog X.w) X E
theorem run_fnA {f : Addr} {pins : List (Addr × Obj)} {σ : L2.St} {H : Hp} {s : Shared} {Q : VK} {us us2 : List Value} {vs zs : List V} (F : FnA X.prog X.w X.K X.mg X.base k f ks m) (hr : Room k X.A) (hx : Passes (cxk X.prog X.w) X E) (I : Inv X pins σ H s) (r : Vals vs us) (rz : Vals zs us2) (hl : us2.length = ks.length)
    (h : spM X.K m (vs ++ zs) H Q E) : wpAny (model X.prog X.w) X.A (call (.ref f) us (ks.zip us2)) (EP X pins σ Q) X.xe s := by
  refine wpAny_call (codeAny_mono (F X.A X.stack s H us us2 vs zs Q E hr I.env0 r rz hl h) fun r s' hq => ?_)
  cases r with
  | error e => exact hx pins σ H s e s' I hq
  | ok fl =>
    cases fl with
    | ret u => exact I.after hq
    | next => exact False.elim hq
    | brk => exact False.elim hq
    | cont => exact False.elim hq
def tCallK0 (K : PySem.W.Frag) (n : Nat) (m : Mf) (E : XK) (tk : TA) : TE := fun σ H Q => tk σ H fun zs H1 => zs.length = n ∧ spM K m zs H1 Q E
theorem evCallK0 {n : Nat} (h2 : EvA K E tk sk) (hn : ∀ ρ ws l ws', sk ρ ws = .ok l ws' → l.length = n) : EvE K E (tCallK0 K n m E tk) (sCall m sk) := fun ρ ws G H as σ Q W S P => by
  cases q : sk ρ ws with
  | bad =>
    unfold sCall at P
    rw [q] at P
    exact False.elim P
  | ex e w' =>
    refine h2 ρ ws G H as σ _ W S ?_
    unfold sCall at P
    rw [q] at P ⊢
    exact P
  | ok l w' =>
    refine h2 ρ ws G H as σ _ W S ?_
    have hl := hn ρ ws l w' q
    unfold sCall at P
    rw [q] at P ⊢
    intro zs G2 H2 as2 r2 W2 rz
    exact ⟨by rw [← rz.len]; exact hl, G2, as2, w', l, W2, rz, Post.from P r2⟩
/-- f(k = v, ..) -/
theorem ae_callK0 (cl : CalA X k E x ks m) (hr : Room k X.A) (hk : AK K X E kws tk sk) (hn : ∀ ρ ws l ws', sk ρ ws = .ok l ws' → l.length = ks.length) (hg : Gl X x := by rfl)
    (hall : (backToKw pos (keywordEach kws X.env)).all (·.1.isSome) = true := by rfl) (hks : (backToKw pos (keywordEach kws X.env)).filterMap (·.1) = ks := by rfl) (hdb : (x == ("__debug__" : Str)) = false := by decide)
    (hpl : ((backTo pos (starEach [] X.env)).any (·.1) || (backToKw pos (keywordEach kws X.env)).any (·.1.isNone)) = false := by rfl) :
    AE K X E (.Call (.Name x p) [] kws pos) (tCallK0 K ks.length m E tk) (sCall m sk) := by
  have e0 := hk.hK
  subst e0
  obtain ⟨f, F, hm, hkp⟩ := cl.ok
  refine ⟨rfl, ⟨fun pins s σ H Q I h => wpAny_Call_Name_kw (ld_glob I hg hm ?_ hdb)⟩, evCallK0 hk.ev hn⟩
  refine PySem.W.callWith_KW0 (h₀ := X.base) I.ok.mod.kin hkp hall ?_ hpl
  refine thn (hk.pe.run pos pins s σ H _ I h) fun us2 s2 ⟨zs, H2, I2, rz, l2, q2⟩ => ⟨I2.kIn, ?_⟩
  rw [hks]
  exact run_fnA (us := []) (vs := []) F hr cl.px I2 .nil rz (by rw [← rz.length]; exact l2) q2
def tMethK0 (K : PySem.W.Frag) (C : Addr) (mth : Str) (n : Nat) (m : Mf) (E : XK) (to : TE) (tk : TA) : TE := fun σ H Q => to σ H fun x H1 => ∃ a dx fs, x = .ref a ∧ H1 a = some (.ins C dx fs) ∧ fs.lookup mth = none ∧ tk σ H1 fun zs H2 => zs.length = n ∧ spM K m (x :: zs) H2 Q E
theorem evMethK0 {n : Nat} (ho : EvE K E to so) (h2 : EvA K E tk sk) (hn : ∀ ρ ws l ws', sk ρ ws = .ok l ws' → l.length = n) : EvE K E (tMethK0 K (He.ga K c) mth n m E to tk) (sMeth c mth m so sk) := fun ρ ws G H as σ Q W S P => ho ρ ws G H as σ _ W S (Post.bind P fun d ws1 u G1 H1 as1 r1 W1 rx P1 => by
  cases q : insOf ws1 c d with
  | none =>
    rw [q] at P1
    exact False.elim P1
  | some kl =>
    obtain ⟨kk, l⟩ := kl
    rw [q] at P1
    simp only at P1
    split at P1
    · exact False.elim P1
    · rename_i hk
      obtain ⟨a, dx, vs, e1, e2, e3, e4⟩ := ins_rep W1 q rx
      refine ⟨a, dx, _, e1, e2, lookup_zip_none hk, ?_⟩
      cases qs : sk ρ ws1 with
      | bad =>
        rw [qs] at P1
        exact False.elim P1
      | ex e w' =>
        refine h2 ρ ws1 G1 H1 as1 σ _ W1 (S.up r1.pre r1.up) ?_
        rw [qs] at P1 ⊢
        exact P1
      | ok l w' =>
        refine h2 ρ ws1 G1 H1 as1 σ _ W1 (S.up r1.pre r1.up) ?_
        have hl := hn ρ ws1 l w' qs
        rw [qs] at P1 ⊢
        intro zs G2 H2 as2 r2 W2 rz
        exact ⟨by rw [← rz.len]; exact hl, G2, as2, w', d :: l, W2, Reps.cons (rx.up r2.pre r2.up) rz, Post.from P1 r2⟩)
/-- o.m(k = v, ..) -/
theorem ae_methK0 {pl : Sem Bool} (cl : MetA X k E c mth ks m) (hr : Room k X.A) (ho : AE K X E o to so) (hk : AK K X E kws tk sk) (hn : ∀ ρ ws l ws', sk ρ ws = .ok l ws' → l.length = ks.length)
    (hall : (backToKw pos (keywordEach kws X.env)).all (·.1.isSome) = true := by rfl) (hks : (backToKw pos (keywordEach kws X.env)).filterMap (·.1) = ks := by rfl)
    (hpl : ((backTo pos (starEach [] X.env)).any (·.1) || (backToKw pos (keywordEach kws X.env)).any (·.1.isNone)) = false := by rfl)
    (ht : eval (.Call (.Attribute o mth apos) [] kws pos) X.env = (do
      let ov ← eval o X.env
      standAt apos.atName
      let (f, first) ← holding [ov] (getMethod ov mth pl)
      callWith pos f first (backTo pos (starEach [] X.env)) (backToKw pos (keywordEach kws X.env))) := by rfl) :
    AE K X E (.Call (.Attribute o mth apos) [] kws pos) (tMethK0 K (He.ga K c) mth ks.length m E to tk) (sMeth c mth m so sk) := by
  have e0 := hk.hK
  subst e0
  obtain ⟨f, F, hc, hm⟩ := cl.ok
  refine ⟨rfl, ⟨fun pins s σ H Q I h => ?_⟩, evMethK0 ho.ev hk.ev hn⟩
  refine PySem.W.methodCall_KW (pl := pl) (thn (ho.pe.run pins s σ H _ I h) fun u s1 ⟨xv, H1, I1, rx, a, dx, fs, ex, ea, l, q⟩ => ?_) ht
  subst ex
  obtain rfl : u = Value.ref a := rx
  refine getmeth_ok I1 ea hc hm l ?_
  refine PySem.W.callWith_KW0 (first := [.ref a]) (h₀ := X.base) I.ok.mod.kin hm.kp hall ?_ hpl
  refine thn (hk.pe.run pos pins s1 σ H1 _ I1 q) fun us2 s2 ⟨zs, H2, I2, rz, l2, q2⟩ => ⟨I2.kIn, ?_⟩
  rw [hks]
  exact run_fnA (us := [.ref a]) (vs := [V.ref a]) F hr cl.px I2 (.cons rfl .nil) rz (by rw [← rz.length]; exact l2) q2
/-! ### -e -/
def sNeg (a : Se) : Se := fun ρ ws => (a ρ ws).bind fun d ws1 => match d with
  | .int i => .ok (.int (-i)) ws1
  | _ => .bad
theorem ae_neg {e : Expr} {te : TE} {se : Se} {pos : Pos} (h : AE K X E e te se) : AE K X E (.UnaryOp .USub e pos) (tUn (rU fun i => .int (-i)) te) (sNeg se) := by
  refine ⟨h.hK, pe_un un_neg h.pe, fun ρ ws G H as σ Q W S P => h.ev ρ ws G H as σ _ W S (Post.bind P fun d ws1 v G1 H1 as1 r1 W1 rx P1 => ?_)⟩
  cases d with
  | int i =>
    simp only [Rep] at rx
    subst rx
    exact ⟨i, rfl, Post.done P1 W1 (by simp [Rep])⟩
  | _ => exact False.elim P1
end
end RL
set_option Elab.async false
set_option linter.all false
set_option maxRecDepth 100000
set_option maxHeartbeats 4000000
/-! RL29: a starred parameter and a keyword-only one that is left out. -/
namespace RL
open PySem PySem.Spec PyProof.Rows L2
variable [kd : KdC]
/-- m, the values zs behind the written ones -/
def mDef (m : Mf) (zs : List D) : Mf := fun ds ws => m (ds ++ zs) ws
section
variable {P : Program} {w : World} {K : PySem.W.Frag} {mg : Str → Option Value} {base : Heap} {k : Nat} {f : Addr} {fd : FuncData} {x qual : Str} {params : Arguments} {body : List Stmt} {scope : Scope}
theorem fna_starD {psA N : List Str} {pv kn : Str} {n : Nat} {g : Ss} {kp : Bool} {dV : V} {dD : D} (F : FunD K x qual params body scope [] [(kn, dV)] f fd) (S : FnScope N (psA ++ [pv]) scope) (hA : psA.length = n + 1)
    (hrep : ∀ (as : List Addr) (G : Hp), Rep K as G dD dV)
    (hb : ∀ (D : Addr) (doc pm : Value) (an : Option Addr) (cdv ct : Value) (us rest : List Value), us.length = n → ∃ (β γ : Type) (k1 : Option Value → Sem β) (k2 : β → Sem γ) (k3 : γ → Sem (List (Str × Value))), bindArgs (PySem.W.fnOf x qual params body scope .none (.ref D) doc pm an cdv ct) ⟨us ++ rest, []⟩ = ((nsGet D kn >>= k1) >>= k2) >>= k3 ∧
      ∀ v, ∃ a, k1 (some v) = pure a ∧ (k2 a >>= k3) = (newTuple rest >>= fun t => pure (psA.zip (us ++ [v]) ++ [(pv, t)])))
    (hd : ∀ (cdv : Value) (A : Around) (outer : List Env) (s : Shared) (H : Hp) (E : XK), Ctx P w K mg base N scope k (cxOf (cxk P w) P w K mg base N qual scope f cdv A outer s H E) E → ∃ ts, ASs K (cxOf (cxk P w) P w K mg base N qual scope f cdv A outer s H E) E body ts g) :
    FnA P w K mg base (k + 1) f [] (mDef (starM kp n 1 N g) [dD]) := by
  obtain ⟨oc, od, dV0, kV, doc, pm, an, cdv, ct, osl, rfl, lk, hcd, hD, hK⟩ := F.ex
  have hdv : dV0 = .none := by
    rcases hD with ⟨_, e⟩ | ⟨e, _⟩
    · exact e
    · exact absurd rfl e
  subst hdv
  obtain ⟨D, rfl, hq⟩ : ∃ D : Addr, kV = .ref D ∧ ∀ q ∈ [(kn, dV)], ∃ u, PySem.W.nsIn K D q.1 = some (some u) ∧ RelV q.2 u := by
    rcases hK with e | ⟨D, e, hq⟩
    · cases e
    · exact ⟨D, e, hq⟩
  obtain ⟨du, hdu, rdu⟩ := hq (kn, dV) List.mem_cons_self
  intro A outer s H us us2 vs zs Q E hr e0 r rz hl h
  have : us2 = [] := List.length_eq_zero_iff.mp hl
  subst this
  cases rz
  rw [List.append_nil] at h
  obtain ⟨G, as, ws, ds, W, rs, Pt⟩ := h
  unfold mDef starM at Pt
  split at Pt
  · rename_i hh
    obtain ⟨h1, h2⟩ := hh
    rw [List.length_append, List.length_singleton] at h1 h2
    have el : ds.length = vs.length := rs.len
    have hv : n ≤ vs.length := by omega
    obtain ⟨q1, q2⟩ := vals_cut r n
    have hu : us.length = vs.length := r.length.symm
    have hn : H s.heap.objs.size = none := e0.hok.fresh (Nat.le_refl _)
    have hz : (vs.drop n).length ≤ sizeLine := small5 (by rw [List.length_drop]; omega)
    have hz2 : (us.drop n).length ≤ sizeLine := by rw [← q2.length]; exact hz
    have hus : (us.take n).length = n := by rw [List.length_take]; omega
    have KX : K.In s.heap := e0.mod.kin.keeps fun b o e => (e0.bs b o e).1
    refine StX.run_bnd lk hcd S hr e0 (G := fun xs H2 => ∃ p, H p = none ∧ xs = (vs.take n ++ [dV]) ++ [V.ref p] ∧ H2 = upd H p (.tup (vs.drop n))) (fun A' Ex Q' hk => ?_) fun s2 H2 xs ⟨p, hp, ex, eH⟩ hr' => ?_
    · obtain ⟨β, γ, k1, k2, k3, hb1, hb2⟩ := hb D doc pm an cdv ct (us.take n) (us.drop n) hus
      obtain ⟨a, hb3, hb4⟩ := hb2 du
      rw [List.take_append_drop] at hb1
      show wpAny _ _ (bindArgs _ ⟨us, []⟩) _ _ _
      rw [hb1, bind_assoc]
      have l1 := (PySem.W.looks_nsIn (M := model P w) KX hdu).andThen (f := k1) (PySem.W.Looks.of_pure hb3)
      refine wpAny_bind (l1.at ?_)
      rw [hb4]
      refine wpAny_bind (wpAny_newTuple (wpAny_pure ?_) hz2)
      have new : ObjOk P w (upd H s.heap.objs.size (.tup (vs.drop n))) (s.heap.push ({ cls := .type "tuple", data := .seq (us.drop n).toArray } : Obj)) s.heap.objs.size (.tup (vs.drop n)) := ⟨hz, us.drop n, q2, ⟨_, Heap.get?_push_size _ rfl, rfl, _, rfl⟩⟩
      have un := StX.un_laid (fs := frs outer) (s := s) (o := ({ cls := .type "tuple", data := .seq (us.drop n).toArray } : Obj)) (u := .tup (vs.drop n)) hn
      have z := hk _ _ ((vs.take n ++ [dV]) ++ [V.ref s.heap.objs.size]) ((us.take n ++ [du]) ++ [Value.ref s.heap.objs.size]) (StX.env0_laid e0 new) un rfl (fun e s' => cxUpK outer s H _ _ E e s' un (fun b o q => Heap.get?_push_of_some _ q) rfl) ((q1.append (.cons rdu .nil)).append (.cons rfl .nil))
        (by
          rw [List.length_append, List.length_append, List.length_append, List.length_take, hA, List.length_singleton, Nat.min_eq_left hv] <;> rfl) ⟨_, hn, rfl, rfl⟩
      rw [List.zip_append (by rw [List.length_append, hus, hA] <;> rfl)] at z
      exact z
    · subst ex eH
      have tk : Tk (cxOf (cxk P w) P w K mg base N qual scope f cdv A outer s2 (upd H p (.tup (vs.drop n))) E) fun cls d _ H => E cls d H := tk_of
      obtain ⟨ts, hT⟩ := hd cdv A outer s2 (upd H p (.tup (vs.drop n))) E ⟨hr', tk, tk_px tk, PassesOwn.leaving⟩
      refine ⟨ts, hT.pe, ?_⟩
      have rch := Rch.new (as := as) (o := .tup (vs.drop n)) W.le hp
      have W2 := W.new (o := .tup (vs.drop n)) hp
      have rs2 := rs.up (List.prefix_refl _) rch.up
      have e1 : (ds ++ [dD]).take n = ds.take n := List.take_append_of_le_length (by omega)
      have e2 : (ds ++ [dD]).drop ((ds ++ [dD]).length - 1) = [dD] := by
        rw [List.length_append, List.length_singleton, Nat.add_sub_cancel, List.drop_left]
      have e3 : ((ds ++ [dD]).drop n).take ((ds ++ [dD]).length - n - 1) = ds.drop n := by
        rw [List.drop_append_of_le_length (by omega)]
        have : (ds ++ [dD]).length - n - 1 = (ds.drop n).length := by
          rw [List.length_append, List.length_singleton, List.length_drop]
          omega
        rw [this, List.take_left]
      rw [e1, e2, e3] at Pt
      have rr : Reps K as (upd G p (.tup (vs.drop n))) (ds.take n ++ [dD] ++ [.tup (ds.drop n)]) ((vs.take n ++ [dV]) ++ [V.ref p]) := by
        refine Reps.app (Reps.app (rs2.take n) (Reps.one (hrep _ _))) (Reps.one ?_)
        simp only [Rep]
        exact ⟨p, vs.drop n, rfl, upd_same, rs2.drop n⟩
      exact hT.ev _ ws (upd G p (.tup (vs.drop n))) _ as _ _ W2 (start_rep rr) (fin_post W2 (Post.from Pt rch))
  · exact False.elim Pt
end
theorem len_1 {a : Se} : ∀ (ρ : List (Option D)) (ws : List Ce) (l : List D) (ws' : List Ce), sCons a sNil ρ ws = .ok l ws' → l.length = 1 := fun ρ ws l ws' h => by
  unfold sCons at h
  cases e : a ρ ws with
  | ok d w1 =>
    rw [e] at h
    simp only [R.bind_ok, sNil] at h
    cases h
    rfl
  | ex _ _ =>
    rw [e] at h
    cases h
  | bad =>
    rw [e] at h
    cases h
/-- len_two -/
theorem len_cons {a : Se} {s : Sa} {n : Nat} (hs : ∀ (ρ : List (Option D)) (ws : List Ce) (l : List D) (ws' : List Ce), s ρ ws = .ok l ws' → l.length = n) : ∀ (ρ : List (Option D)) (ws : List Ce) (l : List D) (ws' : List Ce), sCons a s ρ ws = .ok l ws' → l.length = n + 1 := fun ρ ws l ws' h => by
  unfold sCons at h
  cases e : a ρ ws with
  | ok d w1 =>
    rw [e] at h
    simp only [R.bind_ok] at h
    cases e2 : s ρ w1 with
    | ok l2 w2 =>
      rw [e2] at h
      simp only [R.bind_ok] at h
      cases h
      rw [List.length_cons, hs ρ w1 l2 _ e2]
    | ex _ _ =>
      rw [e2] at h
      cases h
    | bad =>
      rw [e2] at h
      cases h
  | ex _ _ =>
    rw [e] at h
    cases h
  | bad =>
    rw [e] at h
    cases h
theorem len_2 {a b : Se} : ∀ (ρ : List (Option D)) (ws : List Ce) (l : List D) (ws' : List Ce), sCons a (sCons b sNil) ρ ws = .ok l ws' → l.length = 2 := len_cons len_1
theorem len_3 {a b c : Se} : ∀ (ρ : List (Option D)) (ws : List Ce) (l : List D) (ws' : List Ce), sCons a (sCons b (sCons c sNil)) ρ ws = .ok l ws' → l.length = 3 := len_cons len_2
end RL
set_option Elab.async false
set_option linter.all false
set_option maxRecDepth 100000
set_option maxHeartbeats 4000000
/-! RL30: loops that end with an exception, exceptions out of makings, what is heard of one. -/
namespace RL
open PySem L2
section
variable {ws : List Ce}
/-- the good part of a loop -/
theorem for_pre {src : Option Nat} {t : Tg} {body : Ss} {all : List D} (hs : SrcOk src all ws) (J : List (Option D) → Prop) :
    ∀ (ds : List D) (ρ : List (Option D)), J ρ → (∀ d ∈ ds, ∀ ρ, J ρ → ∃ ρ1 ρ2, t d ρ ws = .ok ρ1 ws ∧ body ρ1 ws = .ok (ρ2, .nx) ws ∧ J ρ2) → ∃ ρ', J ρ' ∧ ∀ r, loopFor all src t body (ds ++ r) ρ ws = loopFor all src t body r ρ' ws
  | [], ρ, i, _ => ⟨ρ, i, fun _ => rfl⟩
  | d :: ds, ρ, i, h => by
    obtain ⟨ρ1, ρ2, h1, h2, h3⟩ := h d (by simp) ρ i
    obtain ⟨ρ', z1, z2⟩ := for_pre hs J ds ρ2 h3 fun x hx => h x (List.mem_cons_of_mem _ hx)
    exact ⟨ρ', z1, fun r => by simp only [List.cons_append, loopFor, hs, if_true, h1, h2, R.bind_ok, z2]⟩
theorem for_ex {src : Option Nat} {t : Tg} {body : Ss} {all r : List D} {d : D} {ρ ρ1 : List (Option D)} {e : Ex} {ws' : List Ce} (hs : SrcOk src all ws) (h1 : t d ρ ws = .ok ρ1 ws) (h2 : body ρ1 ws = .ex e ws') : loopFor all src t body (d :: r) ρ ws = .ex e ws' := by
  simp only [loopFor, hs, if_true, h1, h2, R.bind_ok, R.bind_ex]
theorem enumD_snoc (l : List D) (d : D) : enumD (l ++ [d]) = enumD l ++ [.tup [.int (l.length : Nat), d]] := by
  unfold enumD
  rw [List.length_append, List.length_singleton, List.range_succ, List.map_append]
  congr 1
  · apply List.map_congr_left
    intro i hi
    rw [List.mem_range] at hi
    simp [List.getElem?_append_left hi]
  · simp
theorem frz_exA {ws xs : List Ce} {e : Ex} (h : belows ws.length e.l = true) : frzR ws (.ex e (ws ++ xs)) = .ex e ws := by
  by_cases h0 : xs = []
  · subst h0
    rw [List.append_nil]
    simp [frzR]
  · have : (ws ++ xs).length ≠ ws.length := by
      have := List.length_pos_iff.mpr h0
      rw [List.length_append]
      omega
    simp only [frzR, this, if_false, h, cut_appX, and_self, if_true, List.take_left]
theorem mk_ex {c : Str} {m : Mf} {ds : List D} {e : Ex} (hm : m (.cell ws.length :: ds) (ws ++ [.ins c [] []]) = .ex e (ws ++ [.ins c [] []])) (h : belows ws.length e.l = true) : mkR false c m ds ws = .ex e ws := by
  unfold mkR
  simp only [hm, R.bind_ex, Bool.false_eq_true, if_false]
  exact frz_exA h
theorem xf_ok {cs ks : List Str} {f c : Str} {l : List D} {a : Se} {ρ : List (Option D)} {d : D} (h : a ρ ws = .ok (.exc c ks l) ws) (hc : c ∈ cs) (hl : (ks.zip l).lookup f = some d) : sXf cs f a ρ ws = .ok d ws := by
  unfold sXf
  rw [h, R.bind_ok]
  simp only [if_pos hc, hl, R.ofO]
theorem raise_ok {c : Str} {ks : List Str} {a : Sa} {ρ : List (Option D)} {ds : List D} {ws' : List Ce} (h : a ρ ws = .ok ds ws') (hl : ds.length = ks.length) (hk : ks.length ≤ 900) : sRaise c ks a ρ ws = .ex ⟨c, ks.reverse, ds.reverse⟩ ws' := by
  unfold sRaise
  rw [h, R.bind_ok, if_pos ⟨hl, hk⟩]
theorem raise1 {c f : Str} {a : Sa} {ρ : List (Option D)} {d : D} {ws' : List Ce} (h : a ρ ws = .ok [d] ws') : sRaise c [f] a ρ ws = .ex ⟨c, [f], [d]⟩ ws' := raise_ok h rfl (by simp)
theorem raise2 {c f g : Str} {a : Sa} {ρ : List (Option D)} {d e : D} {ws' : List Ce} (h : a ρ ws = .ok [d, e] ws') : sRaise c [f, g] a ρ ws = .ex ⟨c, [g, f], [e, d]⟩ ws' := raise_ok h rfl (by simp)
/-- not unequal to itself -/
theorem ne_self_D {d : D} {k : Nat} (h : Sh d k) (hk : k ≤ 64) : fNeD ws d d = some (.bl false) := by
  obtain ⟨p, a1, a2, a3⟩ := h.shaped hk
  simp only [fNeD, toPy_D a1, Option.bind_some, a2, Bool.and_self, if_true, eqv_self p a3, Bool.not_true]
theorem ne_cell_self {n : Nat} {l : List D} {k : Nat} (hn : ws[n]? = some (.lst l)) (h : ShL l k) (hk : k ≤ 63) : fNeD ws (.cell n) (.lst l) = some (.bl false) := by
  have h2 := Sh.lst h
  obtain ⟨p, a1, a2, a3⟩ := h2.shaped (by omega)
  have a4 : toPy ws (.cell n) = some p := by
    simp only [toPy, hn]
    exact a1
  simp only [fNeD, a4, toPy_D a1, Option.bind_some, a2, Bool.and_self, if_true, eqv_self p a3, Bool.not_true]
theorem eq_nil_lst {l : List D} {k : Nat} (hs : ShL l k) (hk : k ≤ 63) : fEqD ws (.lst l) (.lst []) = some (.bl (decide (l = []))) := by
  obtain ⟨ps, b1, b2, b3, b4⟩ := hs
  have s1 : SeqAt.shaped (.list ps) = true := shaped_of (k := k + 1) (by simp [PyData.canLay0, b2]) (by simp only [PyData.depth]; omega) (by omega)
  have s2 : SeqAt.shaped (.list []) = true := by decide
  have e : decide (ps = []) = decide (l = []) := by
    apply decide_eq_decide.mpr
    rw [← List.length_eq_zero_iff, ← List.length_eq_zero_iff, b4]
  simp only [fEqD, toPy, toPy0, toPys0, b1, Option.map_some, Option.bind_some, s1, s2, Bool.and_self, if_true, eqv_nil, e]
theorem mk_def {kp : Bool} {c : Str} {m : Mf} {zs ds : List D} : mkR kp c (mDef m zs) ds ws = mkR kp c m (ds ++ zs) ws := rfl
end
end RL
set_option Elab.async false
set_option linter.all false
set_option maxRecDepth 100000
set_option maxHeartbeats 4000000
/-! RL31: a list comprehension that an exception may leave. -/
namespace RL
open PySem PySem.Spec PySem.Calls PyProof.Rows L2
/-! ### the block's end, by the whole of its environment -/
def CEnd (M : Model) (A : Around) (E : Value → Shared → Prop) (scope : Scope) (env : Env) (Q : Value → Shared → Prop) (acc : Value) (ce : Env) (r : Result) (t : Shared) : Prop :=
  ∃ m, t.heap.Ns ce.locals m ∧ ∀ g, Heap.SameBut ce.locals t.heap g → match r with
    | .ok _ => Q acc { t with heap := g }
    | .error x => wpAny M A (passOn "comprehension.variables-let-go" x { ce with scope := relabel scope env } : Sem Value) Q E { t with heap := g }
section
variable {M : Model} {A : Around} {E : Value → Shared → Prop} {s : Shared} {env : Env}
theorem comp_run {e : Expr} {scope : Scope} {pos : Pos} {mk first : Sem Value} {g : Comprehension} {gs : List Comprehension} {cl : List (Str × Addr)} {Q : Value → Shared → Prop} (c1 : clausesOf e = g :: gs) (c2 : ∀ x, foldedSetIterable g.iter env x = pure x)
    (c3 : closureFor scope env = pure cl) (c4 : scope.kind = .function) (c5 : ∀ x ∈ scope.names, x.2 = .local → scope.names.lookup x.1 = some .local)
    (h : wpAny M A first (fun x t1 => wpAny M A (pyIter x) (fun it t2 => wpAny M A mk (fun acc t3 => wpAny M A (newFunctionEnv scope env.globals cl [] env.qual none .none (some env)) (fun ce t4 => codeAny M A (.compStart e 0 it acc { ce with scope := relabel scope env }) (CEnd M A E scope env Q acc ce) t4) E t3) E t2) E t1) E s) :
    wpAny M A (comprehension e scope env pos mk false first) Q E s := by
  have up : ∀ {α : Type} {t : Sem α} {P P' : α → Shared → Prop} {u : Shared}, wpAny M A t P E u → (∀ a v, P a v → P' a v) → wpAny M A t P' E u := fun h1 h2 => wpAny_mono h1 h2 fun _ _ z => z
  unfold comprehension
  rw [c3, c1]
  refine wpAny_bind (up h fun x t1 h1 => wpAny_bind (wpAny_standAt (wpAny_bind (wpAny_of_eq (c2 x) (wpAny_bind (wpAny_holding (up h1 fun it t2 h2 => ?_)))))))
  refine wpAny_standIf (wpAny_bind (up h2 fun acc t3 h3 => wpAny_bind (wpAny_pure (wpAny_bind (up h3 fun ce t4 h4 => ?_)))))
  dsimp only
  have loc : ∀ x ∈ (scope.names.filter fun x => (x.2 == .local || x.2 == .cell) && x.1 != (".0" : Str)).reverse, x.2 = .local → Env.kindOf { ce with scope := relabel scope env } x.1 = some .local :=
    fun x hx hl => lookup_relabel_local (c5 x (List.mem_filter.mp (List.mem_reverse.mp hx)).1 hl)
  refine wpAny_holding (wpAny_bind (wpAny_attempt (wpAny_holding (wpAny_run (codeAny_mono h4 fun r t5 ⟨m, hm, hr⟩ => ?_)))))
  cases r with
  | ok f =>
    refine wpAny_bind (wpAny_holding (wpAny_comp_letGo (cenv := { ce with scope := relabel scope env }) c4 _ t5 m loc hm fun g _ _ hg => ?_))
    exact wpAny_pure (hr g hg)
  | error x =>
    refine wpAny_bind (wpAny_holding (wpAny_comp_letGo (cenv := { ce with scope := relabel scope env }) c4 _ t5 m loc hm fun g _ _ hg => ?_))
    exact hr g hg
end
/-! ### a frame is noted by its address alone -/
theorem note_frame {e : Value} {a b : Env} (h : a.frame = b.frame) : noteFrame e a = noteFrame e b := by
  unfold noteFrame PySem.frameOf
  rw [h]
/-! ### an exception in the air, the block's locals C turning -/
theorem frames_but {base h g : Heap} : ∀ {l : List Env}, h.FunFrames base l → (∀ b ∈ frs l, g.get? b = h.get? b) → g.FunFrames base l
  | [], _, _ => trivial
  | env :: l, x, hn => by
    obtain ⟨k, ⟨L, o, hf, n0, ho, hd⟩, hr⟩ := x
    exact ⟨k, ⟨L, o, hf, n0, (hn L (List.mem_filterMap.mpr ⟨env, List.mem_cons_self, hf⟩)).trans ho, hd⟩, frames_but hr fun b hb => by
      obtain ⟨e, he, q⟩ := List.mem_filterMap.mp hb
      exact hn b (List.mem_filterMap.mpr ⟨e, List.mem_cons_of_mem _ he, q⟩)⟩
theorem held_but {base h g : Heap} {l : List Env} {a L C : Addr} {Z : Obj → Prop} {m : Str → Option Value} (x : HandSPX.HeldZ base l a Z L h) (n0 : base.get? C = none) (nf : C ∉ frs l) (hm : h.Ns C m) (sb : ∀ b, b ≠ C → g.get? b = h.get? b) : HandSPX.HeldZ base l a Z L g := by
  obtain ⟨x1, x2, x3, oe, vs, T, oT, ts, y1, y2, y3, y4, y5, y6, y7, y8, y9⟩ := x
  obtain ⟨oc, es, ep, z1, z2, _⟩ := hm
  have na : a ≠ C := fun q => by
    rw [q, z1] at y1
    cases y1
    rw [z2] at y3
    cases y3
  have nT : T ≠ C := fun q => by
    rw [q, z1] at y7
    cases y7
    rw [z2] at y8
    cases y8
  refine ⟨fun b o e => ?_, x2, frames_but x3 fun b hb => sb b fun q => nf (q ▸ hb), oe, vs, T, oT, ts, (sb a na).trans y1, y2, y3, y4, y5, y6, (sb T nT).trans y7, y8, y9⟩
  have nb : b ≠ C := fun q => by
    rw [q, n0] at e
    cases e
  exact (sb b nb).trans (x1 b o e)
theorem fly_hide {base h : Heap} {l : List Env} {a C : Addr} {Z : Obj → Prop} (x : HandSPX.FlyingZ base l a Z h) : HandSPX.FlyingZ (PySem.W.hideAll base [C]) l a Z h := by
  have no : ∀ b, base.get? b = none → (PySem.W.hideAll base [C]).get? b = none := fun b e => by
    cases q : (PySem.W.hideAll base [C]).get? b with
    | none => rfl
    | some o =>
      have z := PySem.W.of_hideAll _ q
      rw [e] at z
      cases z
  obtain ⟨x1, x2, x3, oe, vs, T, oT, ts, y1, y2, y3, y4, y5, y6⟩ := x
  exact ⟨fun b o e => x1 b o (PySem.W.of_hideAll _ e), no a x2, funFrames_none x3 fun b hb => no b (x3.mem hb).1, oe, vs, T, oT, ts, y1, y2, y3, y4, no T y5, y6⟩
section
variable {X : Cx} {pins : List (Addr × Obj)} {σ : L2.St} {H H2 : Hp} {s t : Shared} {B : Heap} {a : Addr} {Z : Obj → Prop}
/-- the state without the exception, told by its ground -/
theorem ground_of (I : Inv X pins σ H s) (st : B.StaysIn t.heap) (hok : HOk X.prog X.w H2 B) (ub : UB (frs X.stack) H H2 s.heap B t.heap) (os : t.os = s.os) (ag : AllBare t.gens) :
    ∃ sI : Shared, Inv X pins σ H2 sI ∧ (∀ b o, sI.heap.get? b = some o → b ∉ frs X.stack → B.get? b = some o) ∧ (∀ b o, sI.heap.get? b = some o → t.heap.get? b = some o ∧ ((∃ o', B.get? b = some o') ∨ b ∈ frs X.stack)) ∧ sI.os = t.os := by
  obtain ⟨G, r1, r2⟩ := restrict t.heap fun b => (B.get? b).isSome || decide (b ∈ frs X.stack)
  have inB : ∀ b o, B.get? b = some o → G.get? b = some o := fun b o e => (r1 b (by simp [e])).trans (st b o e)
  have inF : ∀ b, b ∈ frs X.stack → G.get? b = t.heap.get? b := fun b hb => r1 b (by simp [hb])
  have back : ∀ b o, G.get? b = some o → t.heap.get? b = some o ∧ ((∃ o', B.get? b = some o') ∨ b ∈ frs X.stack) := fun b o e => by
    cases q : ((B.get? b).isSome || decide (b ∈ frs X.stack)) with
    | true =>
      refine ⟨(r1 b q).symm.trans e, ?_⟩
      rcases Bool.or_eq_true_iff.mp q with z | z
      · exact .inl (Option.isSome_iff_exists.mp z)
      · exact .inr (of_decide_eq_true z)
    | false =>
      rw [r2 b q] at e
      cases e
  refine ⟨{ s with heap := G, gens := t.gens, drawn := t.drawn, toks := t.toks }, ?_, fun b o e nb => ?_, back, os.symm⟩
  · have un : Un (frs X.stack) [] H H2 s.heap G := {
      keep := fun b o e n nb _ => inB b o (ub.keep b o e n nb)
      slot := fun b o e _ hb _ => by
        obtain ⟨sl, q⟩ := ub.slot b o e hb
        exact ⟨sl, (inF b hb).trans q⟩
      free := fun b o e n _ => ub.free b o e n
      there := fun b o e _ => by
        by_cases hb : b ∈ frs X.stack
        · obtain ⟨sl, q⟩ := ub.slot b o e hb
          exact ⟨_, (inF b hb).trans q⟩
        · obtain ⟨o', q⟩ := ub.there b o e hb
          exact ⟨o', inB b o' q⟩
      tups := ub.tups
      frzs := ub.frzs
      tbls := ub.tbls }
    exact I.call un (hok.kept inB) ag fun _ z => nomatch z
  · obtain ⟨e1, e2⟩ := back b o e
    rcases e2 with ⟨o', q⟩ | q
    · have z := st b o' q
      rw [e1] at z
      cases z
      exact q
    · exact absurd q nb
/-- the ground without C -/
theorem ub_hide {fs : List Addr} {h h' : Heap} {C : Addr} (ub : UB fs H H2 h B h') : UB fs H H2 (PySem.W.hideAll h [C]) (PySem.W.hideAll B [C]) h' := {
  keep := fun b o e n nb => PySem.W.hideAll_get _ (ub.keep b o (PySem.W.of_hideAll _ e) n nb) fun q => by
    rw [PySem.W.hideAll_none _ q] at e
    cases e
  slot := fun b o e hb => ub.slot b o (PySem.W.of_hideAll _ e) hb
  free := fun b o e n => ub.free b o (PySem.W.of_hideAll _ e) n
  there := fun b o e nb => by
    obtain ⟨o', q⟩ := ub.there b o (PySem.W.of_hideAll _ e) nb
    exact ⟨o', PySem.W.hideAll_get _ q fun z => by
      rw [PySem.W.hideAll_none _ z] at e
      cases e⟩
  tups := ub.tups
  frzs := ub.frzs
  tbls := ub.tbls }
theorem hok_hide {P : Program} {w : World} {C : Addr} (hok : HOk P w H2 B) (n : H2 C = none) : HOk P w H2 (PySem.W.hideAll B [C]) := fun b u e => by
  have nC : ∀ c v, H2 c = some v → c ≠ C := fun c v z q => by
    rw [q, n] at z
    cases z
  refine (hok b u e).stay (fun c v hc q => PySem.W.hideAll_get _ q fun hm => ?_) (fun _ q => q) fun _ _ q => q
  rw [List.mem_singleton] at hm
  rcases hc with z | z
  · exact nC b u e (z.symm.trans hm)
  · exact nC c _ z hm
end
section
variable {X : Cx} {pins : List (Addr × Obj)} {σ : L2.St} {H : Hp} {s t : Shared} {E : XK} {W : WX} {C : Addr} {ce ce0 : Env} {scope : Scope} {Q : Value → Shared → Prop} {acc e : Value}
/-- what a call inside the block let out leaves the comprehension -/
theorem blk_air (hs : X.stack = X.env :: X.outer) (hf : X.env.frame = some X.env.locals) (tk : Takes X W) (hW : ∀ cls d H', E cls d H' → W cls d σ H') (I : Inv X pins σ H s) (f : FpOk X pins H C) (hC : ∃ m, s.heap.Ns C m) (c : CX X.prog X.w X.stack H s E e t)
    (k1 : ce.frame = X.env.frame) (k2 : ce0.frame = X.env.frame) (k3 : ce0.locals = C) : notedBy (model X.prog X.w) X.A ce (fun x u => CEnd (model X.prog X.w) X.A X.xe scope X.env Q acc ce0 (.error x) u) e t := by
  obtain ⟨a, B, H', cls, d, rfl, fl, hok, ub, na, os, ag, hE⟩ := c
  obtain ⟨f0, f1, f2, f3, f4, f5⟩ := f
  obtain ⟨m, oc, es, ep, z1, z2, z3⟩ := hC
  have nF : C ∉ frs X.stack := fun q => by
    rw [hs] at q
    unfold frs at q
    rw [List.filterMap_cons, hf] at q
    rcases List.mem_cons.mp q with y | y
    · exact f1 y
    · exact f2 y
  have I2 : Inv X pins σ H { s with heap := PySem.W.hideAll s.heap [C], toks := s.toks } := I.turned (it := C) (fun b o hb q => PySem.W.hideAll_get _ q fun y => hb (List.mem_singleton.mp y)) f0 f1 f3 f4 f5
  have n2 : H' C = none := ub.free C oc z1 f0
  have flh := fly_hide (C := C) fl
  have BC : (PySem.W.hideAll B [C]).get? C = none := PySem.W.hideAll_none _ (List.mem_singleton.mpr rfl)
  obtain ⟨sI, J, nb, back, osI⟩ := ground_of (t := t) I2 flh.1 (hok_hide hok n2) (ub_hide ub) os ag
  have tC : t.heap.get? C = some oc := fl.1 C oc (ub.keep C oc z1 f0 nF)
  have hfr : X.A.frames = some (X.env :: X.outer) := by rw [I.ok.frames, hs]
  show wpAny _ _ (noteFrame (.ref a) ce) _ _ t
  rw [note_frame k1]
  refine HandSPX.looks_onZ Zc.steady hfr hf (by rw [← hs]; exact flh) fun h1 held up => ?_
  obtain ⟨sl, q1⟩ := up C oc tC (fun vs y => by rw [z2] at y; cases y)
  have hm1 : h1.Ns C m := ⟨_, es, ep, q1, z2, z3⟩
  rw [← hs] at held
  refine ⟨m, by rw [k3]; exact hm1, fun g sb => ?_⟩
  rw [k3] at sb
  have heldg : HandSPX.HeldZ (PySem.W.hideAll B [C]) X.stack a (Zc cls d) X.env.locals g := held_but held BC nF hm1 sb.2
  obtain ⟨_, _, _, oe, vs, T, oT, ts, y1, y2, y3, y4, y5, y6, y7, y8, y9⟩ := id heldg
  show wpAny _ _ (passOn "comprehension.variables-let-go" (.ref a) { ce0 with scope := relabel scope X.env } : Sem Value) _ _ _
  unfold PySem.passOn
  refine wpAny_bind (wpAny_field y1 y3 y4 ?_)
  rw [if_neg (by simp)]
  have kf : ({ ce0 with scope := relabel scope X.env } : Env).frame = some X.env.locals := k2.trans hf
  rw [kf]
  refine wpAny_bind (HandSPX.setFlight_onZ (s := { t with heap := g }) heldg fun h2 held2 up2 => ?_)
  refine wpAny_throw ?_
  refine tk _ _ ⟨a, PySem.W.hideAll B [C], sI, pins, σ, H', cls, d, rfl, J, nb, fun b o q hnf => ?_, .inr (.inr held2), na, osI.symm, ag, hW cls d H' hE⟩
  obtain ⟨p1, p2⟩ := back b o q
  have nbC : b ≠ C := fun y => by
    rcases p2 with ⟨o', w⟩ | w
    · rw [y, BC] at w
      cases w
    · exact nF (y ▸ w)
  obtain ⟨sl1, p3⟩ := up b o p1 hnf
  obtain ⟨sl2, p4⟩ := up2 b _ ((sb.2 b nbC).trans p3) hnf
  exact ⟨sl2, p4⟩
end
section
variable {X : Cx} {E : XK}
/-- the block's context, what is wanted of an exception of its element -/
abbrev blkE (X : Cx) (s : Shared) (H : Hp) (scope : Scope) (ce : Env) (fp : List Addr) (xe : Value → Shared → Prop) : Cx := (X.blk s H scope ce fp).wish xe
/-- [elt for tg in iter if ..], where elt may raise -/
theorem pe_lcX {elt tg iter : Expr} {ifs : List Expr} {scope : Scope} {own : List (Str × Nat)} {pos : Pos} {wi : TI} {g : TG} {tt : TT} {te : TE} (hc : X.calm = true) (hN : X.N.Nodup) (hi : PI X tg iter wi) (ok : BlkOk X.N X.env.scope scope own)
    (hs : X.stack = X.env :: X.outer) (hf : X.env.frame = some X.env.locals) (tk : Takes X fun cls d _ H => E cls d H)
    (hg : ∀ (s : Shared) (H : Hp) (C : Addr) (cl : List (Str × Addr)) (fp : List Addr), PG (X.blk s H scope (compEnvC scope cl C X.env) fp) tg g)
    (ht : ∀ (s : Shared) (H : Hp) (C : Addr) (cl : List (Str × Addr)) (fp : List Addr), PTs (X.blk s H scope (compEnvC scope cl C X.env) fp) ifs tt)
    (he : ∀ (s : Shared) (H : Hp) (C : Addr) (cl : List (Str × Addr)) (fp : List Addr) (xe : Value → Shared → Prop), Passes (L2.CX X.prog X.w) (blkE X s H scope (compEnvC scope cl C X.env) fp xe) E → PE (blkE X s H scope (compEnvC scope cl C X.env) fp xe) elt te)
    (hfi : ∀ x, foldedSetIterable iter X.env x = pure x := by intro _; rfl) : PE X (.ListComp elt [⟨tg, iter, ifs, 0⟩] scope pos) (tLc wi g tt te (own.map (·.2))) := by
  refine ⟨fun pins s0 σ H Q I h => ?_⟩
  rw [eval_ListComp]
  have fr : ∀ y ∈ scope.names, y.2 = .free → ∃ c, X.env.cells.lookup y.1 = some c := fun y hy e =>
    (ok.free y hy e).elim (fun k => I.ok.has _ (.inl k)) fun k => I.ok.has _ (.inr k)
  refine comp_run rfl hfi (closure_ok fr) ok.kind (fun y hy e => by rw [ok.uniq y hy, e]) (thn (hi.run pins s0 σ H _ I h) fun xv t1 hx => thn hx fun itv t2 y2 => ?_)
  obtain ⟨it, fp, tn, J, H2, rfl, I2, T, st2, f2, q⟩ := y2
  refine wpAny_newObj_type ?_ (by show 0 ≤ sizeLine; decide)
  obtain ⟨D, hD⟩ : ∃ D, D = t2.heap.objs.size := ⟨_, rfl⟩
  obtain ⟨Wm, ⟨m0, w0⟩, turn⟩ := q D (by rw [hD]; exact I2.hok.fresh (Nat.le_refl _))
  obtain ⟨t3, e3⟩ : ∃ t3 : Shared, t3 = { t2 with heap := t2.heap.push { cls := .type "list", data := .seq ([] : List Value).toArray } } := ⟨_, rfl⟩
  have kp3 : ∀ b o, t2.heap.get? b = some o → t3.heap.get? b = some o := fun b o e => by rw [e3]; exact Heap.get?_push_of_some _ e
  have sz3 : t3.heap.objs.size = t2.heap.objs.size + 1 := by rw [e3]; exact Heap.size_push ..
  have I3 : Inv X pins σ (upd H2 D (.lst [])) t3 := by
    rw [e3]
    exact I2.laid (t' := t2.toks) (fun b o e => Heap.get?_push_of_some _ e) (Nat.le_of_eq hD.symm) ⟨Nat.zero_le _, [], 0, .nil, by rw [hD]; exact Heap.get?_push_size _ rfl⟩
  have lt2 : ∀ b ∈ fp, b < t2.heap.objs.size := fun b hb => Heap.lt_size (T.obj _ _ st2 b hb).choose_spec.1
  have f3 : ∀ b ∈ fp, FpOk X pins (upd H2 D (.lst [])) b ∧ b < t3.heap.objs.size := fun b hb =>
    ⟨⟨(upd_ne (by rw [hD]; exact Nat.ne_of_lt (lt2 b hb))).trans (f2 b hb).1, (f2 b hb).2⟩, by rw [sz3]; exact Nat.lt_succ_of_lt (lt2 b hb)⟩
  have st3 : tn 0 t3.heap := T.keep _ _ _ st2 fun b _ o e => kp3 b o e
  have I4 := block_start I3 ok hN f3
  rw [← hD, ← e3]
  refine newEnv_comp ?_
  obtain ⟨ce0, hce0⟩ : ∃ ce0, ce0 = newEnv scope t3.heap.objs.size X.env.globals (cellsFrom (t3.heap.objs.size + 1) scope.names (cloFrom X.env.cells scope.names [])) X.env.qual none .none (some X.env) builtinsNs := ⟨_, rfl⟩
  rw [← hce0]
  obtain ⟨ce, hce⟩ : ∃ ce, ce = compEnvC scope (cellsFrom (t3.heap.objs.size + 1) scope.names (cloFrom X.env.cells scope.names [])) t3.heap.objs.size X.env := ⟨_, rfl⟩
  have q1 : ({ ce0 with scope := relabel scope X.env } : Env) = ce := by rw [hce0, hce]; rfl
  have kf : ce.frame = X.env.frame := by rw [hce] <;> rfl
  have kf0 : ce0.frame = X.env.frame := by rw [hce0] <;> rfl
  have kl0 : ce0.locals = t3.heap.objs.size := by rw [hce0] <;> rfl
  have kl : ce.locals = t3.heap.objs.size := by rw [hce] <;> rfl
  rw [q1]
  obtain ⟨H3, hH3⟩ : ∃ H3, H3 = upd H2 D (.lst []) := ⟨_, rfl⟩
  rw [← hH3] at I3 f3 I4 w0
  have pg := hg t3 H3 t3.heap.objs.size (cellsFrom (t3.heap.objs.size + 1) scope.names (cloFrom X.env.cells scope.names [])) fp
  have pt := ht t3 H3 t3.heap.objs.size (cellsFrom (t3.heap.objs.size + 1) scope.names (cloFrom X.env.cells scope.names [])) fp
  have pe := he t3 H3 t3.heap.objs.size (cellsFrom (t3.heap.objs.size + 1) scope.names (cloFrom X.env.cells scope.names [])) fp
  rw [← hce] at I4 pg pt pe
  obtain ⟨t4, e4⟩ : ∃ t4 : Shared, t4 = { t3 with heap := pushCells (t3.heap.push { cls := .type "dict", data := .dict #[] }) scope.names } := ⟨_, rfl⟩
  rw [← e4] at I4 ⊢
  have st4 : tn 0 t4.heap := T.keep _ _ _ st3 fun b _ o e => by rw [e4]; exact pushCells_keeps _ _ _ _ (Heap.get?_push_of_some _ e)
  have home : ∀ {pB σB HB sB}, Inv (X.blk t3 H3 scope ce fp) pB σB HB sB → Inv X pins σ HB sB ∧ FpOk X pins HB t3.heap.objs.size ∧ ∃ m, sB.heap.Ns t3.heap.objs.size m := fun {pB σB HB sB} IB => by
    have n0 : HB t3.heap.objs.size = none := by
      have z : HB ce.locals = none := IB.free
      rw [kl] at z
      exact z
    obtain ⟨m, hm, _⟩ := IB.loc
    refine ⟨I3.call' (ch := fp) IB.os IB.base IB.hok IB.bare fun b hb => ?_, I3.fpOk (Nat.le_refl _) n0, m, ?_⟩
    · obtain ⟨⟨_, a1, _, a3, a4, a5⟩, _⟩ := f3 b hb
      exact ⟨a3, a1, a4, a5⟩
    · have hm : sB.heap.Ns ce.locals m := hm
      rw [kl] at hm
      exact hm
  have px : Passes (L2.CX X.prog X.w) (blkE X t3 H3 scope ce fp (notedBy (model X.prog X.w) X.A ce fun x u => CEnd (model X.prog X.w) X.A X.xe scope X.env (EP X pins σ Q) (.ref D) ce0 (.error x) u)) E := fun pB σB HB sB e sB' IB cx => by
    obtain ⟨J1, J2, J3⟩ := home IB.unwish
    exact blk_air hs hf tk (fun _ _ _ z => z) J1 J2 J3 cx kf kf0 kl0
  have pel := pe _ px
  have own0 : ∀ {σ' : L2.St} {H' : Hp} {u' : Shared}, Inv (X.blk t3 H3 scope ce fp) [] σ' H' u' → (∀ b ∈ fp, H' b = none) → ∀ b ∈ fp, FpOk (X.blk t3 H3 scope ce fp) [] H' b := fun {σ' H' u'} I' hn b hb => by
    obtain ⟨a1, a2⟩ := I'.ok.exf b hb
    exact ⟨hn b hb, a1, I'.ok.exfs b hb, .inl hb, fun x c e => a2 x c e, fun p hp => by
      have hp : p ∈ ([] : List (Addr × Obj)) ++ [] := hp
      simp at hp⟩
  have loop : codeAny (model X.prog X.w) X.A (.compLoop (.ListComp elt [⟨tg, iter, ifs, 0⟩] scope pos) 0 (.ref it) (.ref D) ce) (CEnd (model X.prog X.w) X.A X.xe scope X.env (EP X pins σ Q) (.ref D) ce0) t4 := by
    refine compLoop_any (fun n u => ∃ i H', Inv (X.blk t3 H3 scope ce fp) [] (wipe σ (own.map (·.2))) H' u ∧ tn i u.heap ∧ (∀ b ∈ fp, H' b = none) ∧ Wm i n H') ?_ m0 ⟨0, H3, I4, st4, fun b hb => (f3 b hb).1.1, w0⟩
    rintro n u5 ⟨i, H5, I5, s5, n5, w5⟩
    rcases turn i n H5 w5 with ⟨stop, qq⟩ | ⟨go, Nx, hNx, step⟩
    · refine thnF (T.done (X.blk t3 H3 scope ce fp) rfl rfl rfl hc i [] u5 _ H5 (fun _ _ => False) I5 (own0 I5 n5) s5 stop) fun r u6 ⟨hr, I6⟩ => ?_
      subst hr
      obtain ⟨J1, ⟨a0, a1, a2, a3, a4, a5⟩, m, hm⟩ := home I6
      refine ⟨m, by rw [kl0]; exact hm, fun g sb => ?_⟩
      rw [kl0] at sb
      exact ⟨.ref D, H5, J1.turned (t' := u6.toks) (fun b o hb e => (sb.2 b hb).trans e) a0 a1 a3 a4 a5, rfl, qq⟩
    · refine thnF (T.item (X.blk t3 H3 scope ce fp) rfl rfl rfl hc i [] u5 _ H5 (fun _ _ => False) I5 (own0 I5 n5) s5 go) fun r u6 ⟨v, hr, y6⟩ => ?_
      subst hr
      refine thnF y6 fun _ u7 ⟨x, H7, I7, r7, yl, s7, n7⟩ => ?_
      have P7 := I7.pinned (own0 I7 n7) (T.obj _ _ s7)
      refine thnF (pg.run _ u7 _ H7 x v _ P7 r7 (step x H7 yl)) fun _ u8 ⟨σ8, H8, I8, hw8, q8⟩ => ?_
      refine thnF (pt.run _ u8 σ8 H8 _ I8 q8) fun b u9 ⟨H9, I9, q9⟩ => ?_
      have next : ∀ {u' : Shared} {H' : Hp}, Inv (X.blk t3 H3 scope ce fp) ([] ++ pinsAt fp u7.heap) σ8 H' u' → Nx H' → ∃ m, m < n ∧ ∃ i H', Inv (X.blk t3 H3 scope ce fp) [] (wipe σ (own.map (·.2))) H' u' ∧ tn i u'.heap ∧ (∀ b ∈ fp, H' b = none) ∧ Wm i m H' := fun {u' H'} I' nx => by
        obtain ⟨m', lt, w'⟩ := hNx H' nx
        have pn : ∀ b ∈ fp, ∀ o, u7.heap.get? b = some o → u'.heap.get? b = some o ∧ H' b = none := fun b hb o e => by
          obtain ⟨z1, z2, _⟩ := I'.pin (b, o) (List.mem_append_right _ (List.mem_append_right _ (mem_pinsAt hb e)))
          exact ⟨z1, z2⟩
        have hl : (wipe σ (own.map (·.2))).length = σ8.length := by rw [← hw8, wipe_length]
        have I'' := (I'.unpinned (pins := [])).weak hl fun j v e => by
          rw [← hw8] at e
          exact (wipe_some e).1
        refine ⟨m', lt, i + 1, H', I'', T.keep _ _ _ s7 fun b hb o e => (pn b hb o e).1, fun b hb => ?_, w'⟩
        obtain ⟨o, e, _⟩ := T.obj _ _ s7 b hb
        exact (pn b hb o e).2
      cases b with
      | false =>
        simp only [Bool.false_eq_true, if_false] at q9 ⊢
        exact next I9 q9
      | true =>
        simp only [if_true] at q9 ⊢
        refine thn (pel.run _ u9 σ8 H9 _ (I9.wish _) q9) fun z u10 ⟨yv, H10, I10, r10, av, d1, d2, nx⟩ => ?_
        exact app_ok (X := X.blk t3 H3 scope ce fp) I10.unwish d1 d2 r10 fun u11 I11 => next I11 nx
  exact codeAny_compStart_list loop (T.self X.A 0 _ _ _ st4 loop)
end
end RL
set_option Elab.async false
set_option linter.all false
set_option maxRecDepth 100000
set_option maxHeartbeats 4000000
/-! RL32: what such a comprehension tells. -/
namespace RL
open PySem PySem.Spec PyProof.Rows L2
/-- the element may raise -/
def loopLcX (ds : List D) (src : Option Nat) (t : Tg) (c : Sb) (el : Se) (ρ : List (Option D)) : List D → List D → List Ce → R (List D)
  | [], acc, ws => if SrcOk src ds ws then .ok acc ws else .bad
  | d :: rest, acc, ws => if SrcOk src ds ws then (nox (t d ρ ws)).bind fun ρ1 ws1 => (nox (c ρ1 ws1)).bind fun b ws2 =>
      if b = true then (el ρ1 ws2).bind fun y ws3 => if acc.length < 100000 then loopLcX ds src t c el ρ rest (acc ++ [y]) ws3 else .bad
      else loopLcX ds src t c el ρ rest acc ws2
    else .bad
def sLcGX (fz : List D → List Ce → R D) (vs : List Nat) (it : Si) (t : Tg) (c : Sb) (el : Se) : Se := fun ρ ws => (it ρ ws).bind fun r ws1 => (loopLcX r.1 r.2 t c el (wipeD ρ vs) r.1 [] ws1).bind fz
def sLcX (vs : List Nat) (it : Si) (t : Tg) (c : Sb) (el : Se) : Se := sLcGX fzL vs it t c el
def sLcMX (vs : List Nat) (it : Si) (t : Tg) (c : Sb) (el : Se) : Se := sLcGX fzM vs it t c el
section
variable {K : PySem.W.Frag} {X : Cx} {E : XK} {tg iter elt : Expr} {ifs : List Expr} {wi : TI} {g : TG} {tt : TT} {te : TE} {f : Si} {sl vs : List Nat} {t : Tg} {c : Sb} {el : Se} {pos : Pos}
theorem evLcGX {fz : List D → List Ce → R D} (hfz : ∀ G1 H1 as1 l ws2 Q p, H1 p = none → Post K E (Rep K) G1 H1 as1 (fz l ws2) Q → PostL K E p G1 H1 as1 (.ok l ws2) Q) (hi : EvI K E wi f) (hg : EvG K E0 g sl t) (hsl : ∀ i ∈ sl, i ∈ vs) (hc : EvT K E0 tt c) (he : EvE K E te el) : EvE K E (tLc wi g tt te vs) (sLcGX fz vs f t c el) := fun ρ ws G H as σ Q W S P => by
  refine hi ρ ws G H as σ _ W S (Post.bind P fun r ws1 J G1 H1 as1 r1 W1 wk P1 => ?_)
  obtain ⟨ds, src⟩ := r
  have wk : Wk K as1 G1 ds src J := wk
  have S1 := S.up r1.pre r1.up
  intro p hp
  have P1 : PostL K E p G1 H1 as1 (loopLcX ds src t c el (wipeD ρ vs) ds [] ws1) Q := by
    have P1 : Post K E (Rep K) G1 H1 as1 ((loopLcX ds src t c el (wipeD ρ vs) ds [] ws1).bind fz) Q := P1
    cases q : loopLcX ds src t c el (wipeD ρ vs) ds [] ws1 with
    | ok l ws2 =>
      rw [q] at P1
      exact hfz G1 H1 as1 l ws2 Q p hp P1
    | ex e ws2 =>
      rw [q] at P1
      exact P1
    | bad =>
      rw [q] at P1
      exact P1
  have hG1 : G1 p = none := by
    cases q : G1 p with
    | none => rfl
    | some o => rw [W1.le _ _ q] at hp; cases hp
  have hA1 : p ∉ as1 := fun z => (W1.out p z).2.ne hp
  refine ⟨fun i m H' => m = ds.length - i ∧ i ≤ ds.length ∧ ∃ acc av ws' G' as', Rch G1 H1 as1 G' H' as' ∧ Wd K G' H' as' ws' ∧ G' p = none ∧ p ∉ as' ∧ H' p = some (.lst av) ∧ Reps K as' G' acc av ∧
      PostL K E p G1 H1 as1 (loopLcX ds src t c el (wipeD ρ vs) (ds.drop i) acc ws') Q,
    ⟨_, rfl, Nat.zero_le _, [], [], ws1, G1, as1, Rch.refl.side hp, W1.side hG1 hA1 (.none hp), hG1, hA1, upd_same, Reps.nil, P1⟩, ?_⟩
  rintro i m H' ⟨rfl, hle, acc, av, ws', G', as', rch, W', gp, ap, hap, racc, P'⟩
  have S' := (S1.up rch.pre rch.up).wipe (vs := vs)
  by_cases hlt : i < ds.length
  · refine .inr ?_
    have hd : ds.drop i = ds[i] :: ds.drop (i + 1) := List.drop_eq_getElem_cons hlt
    rw [hd] at P'
    unfold loopLcX at P'
    split at P'
    · rename_i hs
      refine ⟨wk.go i H' as' G' ws' rch.pre rch.up W' hs hlt, fun H2 => ∃ acc av ws2 G2 as2, Rch G1 H1 as1 G2 H2 as2 ∧ Wd K G2 H2 as2 ws2 ∧ G2 p = none ∧ p ∉ as2 ∧ H2 p = some (.lst av) ∧ Reps K as2 G2 acc av ∧
          PostL K E p G1 H1 as1 (loopLcX ds src t c el (wipeD ρ vs) (ds.drop (i + 1)) acc ws2) Q, fun H2 h => ⟨ds.length - (i + 1), by omega, rfl, hlt, h⟩, fun x H2 hy => ?_⟩
      obtain ⟨d, G3, hd', r3, W3, rx⟩ := wk.yld i H' x H2 as' G' ws' rch.pre rch.up W' hs hlt hy
      rw [List.getElem?_eq_getElem hlt] at hd'
      cases hd'
      have keep : ∀ {G5 H5 : Hp} {as5 : List Addr}, Rch G' H' as' G5 H5 as5 → G5 p = none ∧ p ∉ as5 ∧ H5 p = some (.lst av) := by
        intro G5 H5 as5 r5
        refine ⟨r5.nw p (.of hap) gp, fun z => ?_, r5.fr p _ ap hap (by intro _ z; cases z)⟩
        rcases r5.fs p z with q | q
        · exact ap q
        · exact q (.of hap)
      refine hg _ x (wipeD ρ vs) ws' G3 H2 as' (wipe σ vs) _ W3 (S'.up r3.pre r3.up) rx (nox_post (E := E) (PostL.bind0 P' (rch.trans r3) fun ρ1 ws4 σ4 G4 H4 as4 r4 W4 S4 P4 => ?_))
      refine ⟨by rw [wipe_chg S4.2 hsl, wipe_wipe], ?_⟩
      refine hc ρ1 ws4 G4 H4 as4 σ4 _ W4 S4.1 (nox_post (E := E) (PostL.bind0 P4 ((rch.trans r3).trans r4) fun b ws5 b' G5 H5 as5 r5 W5 rb P5 => ?_))
      cases rb
      cases b with
      | true =>
        rw [if_pos rfl] at P5 ⊢
        refine he ρ1 ws5 G5 H5 as5 σ4 _ W5 (S4.1.up r5.pre r5.up) (PostL.bind0 P5 (((rch.trans r3).trans r4).trans r5) fun y ws6 yv G6 H6 as6 r6 W6 ry P6 => ?_)
        have r06 := ((r3.trans r4).trans r5).trans r6
        obtain ⟨k1, k2, k3⟩ := keep r06
        split at P6
        · rename_i hl
          exact ⟨av, k3, small5' (by rw [← racc.len]; exact hl), acc ++ [y], av ++ [yv], ws6, G6, as6, (rch.trans r06).side hp, W6.side k1 k2 (.of k3), k1, k2, upd_same, (racc.up r06.pre r06.up).app (Reps.one ry), P6⟩
        · exact False.elim P6
      | false =>
        rw [if_neg Bool.false_ne_true] at P5 ⊢
        have r05 := (r3.trans r4).trans r5
        obtain ⟨k1, k2, k3⟩ := keep r05
        exact ⟨acc, av, ws5, G5, as5, rch.trans r05, W5, k1, k2, k3, racc.up r05.pre r05.up, P5⟩
    · exact False.elim P'
  · have e : i = ds.length := by omega
    subst e
    rw [List.drop_length] at P'
    unfold loopLcX at P'
    split at P'
    · rename_i hs
      exact .inl ⟨wk.stop H' as' G' ws' rch.pre rch.up W' hs, P' av G' H' as' rch W' gp ap hap racc⟩
    · exact False.elim P'
theorem evLcX (hi : EvI K E wi f) (hg : EvG K E0 g sl t) (hsl : ∀ i ∈ sl, i ∈ vs) (hc : EvT K E0 tt c) (he : EvE K E te el) : EvE K E (tLc wi g tt te vs) (sLcX vs f t c el) := evLcGX (fun G1 H1 as1 l ws2 Q p hp P => fun av G' H' as' rch W' gp ap hap racc => by
  refine P _ _ _ as' (rch.freeze hp gp) (W'.freeze ap hap gp) ?_
  simp only [Rep]
  refine ⟨p, av, rfl, upd_same, racc.up (List.prefix_refl _) fun b u z => ?_⟩
  rw [upd_ne (fun y => by rw [y, gp] at z; cases z)]
  exact z) hi hg hsl hc he
theorem evLcMX (hi : EvI K E wi f) (hg : EvG K E0 g sl t) (hsl : ∀ i ∈ sl, i ∈ vs) (hc : EvT K E0 tt c) (he : EvE K E te el) : EvE K E (tLc wi g tt te vs) (sLcMX vs f t c el) := evLcGX (fun G1 H1 as1 l ws2 Q p hp P => fun av G' H' as' rch W' gp ap hap racc => by
  have h1 := rch.adopt (o := .lst av) hp
  have h2 := W'.adopt (c := .lst l) (o := .lst av) gp ap (.of hap) ⟨av, rfl, racc.up (prefix_snoc _ _) (Same.refl _)⟩
  rw [upd_self hap] at h1 h2
  refine P _ _ _ _ h1 h2 ?_
  simp only [Rep]
  exact ⟨p, by rw [← W'.len]; simp, rfl⟩) hi hg hsl hc he
theorem ae_lcX {scope : Scope} {own : List (Str × Nat)} (hN : X.N.Nodup) (tk : Takes X fun cls d _ H => E cls d H) (hi : AI K X E tg iter wi f) (ok : blkC X.N X.env.scope scope own = true)
    (hg : ∀ (s : Shared) (H : Hp) (C : Addr) (cl : List (Str × Addr)) (fp : List Addr), AG K (X.blk s H scope (compEnvC scope cl C X.env) fp) E0 tg g sl t)
    (ht : ∀ (s : Shared) (H : Hp) (C : Addr) (cl : List (Str × Addr)) (fp : List Addr), ATs K (X.blk s H scope (compEnvC scope cl C X.env) fp) E0 ifs tt c)
    (he : ∀ (s : Shared) (H : Hp) (C : Addr) (cl : List (Str × Addr)) (fp : List Addr) (xe : Value → Shared → Prop), Passes (L2.CX X.prog X.w) (blkE X s H scope (compEnvC scope cl C X.env) fp xe) E → AE K (blkE X s H scope (compEnvC scope cl C X.env) fp xe) E elt te el)
    (hsl : ∀ i ∈ sl, i ∈ own.map (·.2) := by decide) (hc : X.calm = true := by rfl) (hst : X.stack = X.env :: X.outer := by rfl) (hf : X.env.frame = some X.env.locals := by rfl) (hs : ∀ x, foldedSetIterable iter X.env x = pure x := by intro _; rfl) :
    AE K X E (.ListComp elt [⟨tg, iter, ifs, 0⟩] scope pos) (tLc wi g tt te (own.map (·.2))) (sLcX (own.map (·.2)) f t c el) := by
  have e0 := hi.hK
  subst e0
  exact ⟨rfl, pe_lcX hc hN hi.pe (blkOk_by ok) hst hf tk (fun s H C cl fp => (hg s H C cl fp).pe) (fun s H C cl fp => (ht s H C cl fp).pe) (fun s H C cl fp xe px => (he s H C cl fp xe px).pe) hs,
    evLcX hi.ev (hg X.s_0 X.H_0 0 [] []).ev hsl (ht X.s_0 X.H_0 0 [] []).ev (he X.s_0 X.H_0 0 [] [] (fun _ _ => True) fun _ _ _ _ _ _ _ _ => trivial).ev⟩
end
end RL
set_option Elab.async false
set_option linter.all false
set_option maxRecDepth 100000
set_option maxHeartbeats 4000000
/-! RL33: isinstance with a tuple of classes that is written there. -/
namespace RL
open PySem PySem.Spec PyProof.Rows L2
/-- the table is right for the classes us -/
def TabOkT (K : PySem.W.Frag) (tab : List (Tn × Bool)) (us : List Value) : Prop := ∀ t b, tab.lookup t = some b → PySem.W.kitAny K (tnV K t) us = some b ∧ ∀ n, t = .c n → IsC K n
section
variable {K : PySem.W.Frag} {X : Cx} {E : XK} {e : Expr} {te : TE} {se : Se} {p p2 pos : Pos}
theorem ae_isiT {es2 : List Expr} {kx : Nat} {ta : TA} {cs : List V} {us : List Value} {tab : List (Tn × Bool)} (IF : IsF K) (ok : TabOkT K tab us) (hc : Paired ClsV cs us) (hm : X.mg "isinstance" = none) (h : AE K X E e te se) (h2 : PA X es2 ta) (hta : ∀ σ H Q, Q cs H → ta σ H Q) (hl : cs.length ≤ 100000) (hg : Gl X "isinstance" := by rfl)
    (he : starEach [e, .Tuple es2 kx p2] X.env = (false, eval e X.env) :: starEach [.Tuple es2 kx p2] X.env := by rfl) (hs2 : starEach [.Tuple es2 kx p2] X.env = (false, eval (.Tuple es2 kx p2) X.env) :: starEach [] X.env := by rfl) (hpl : (backTo pos (starEach [.Tuple es2 kx p2] X.env)).any (·.1) = false := by rfl) :
    AE K X E (.Call (.Name "isinstance" p) [e, .Tuple es2 kx p2] [] pos) (tCB (rIsiT K) (tCons te (tCons (tTup ta) tNil))) (sIsi tab se) := by
  have e0 := h.hK
  subst e0
  refine ⟨rfl, pe_callB call_isiT hg hm rfl (pa_cons h.pe (pa_cons (pe_tup h2) pa_nil hs2) he) (by decide) (by decide) he hpl, fun ρ ws G H as σ Q W S P => h.ev ρ ws G H as σ _ W S (Post.bind P fun d ws1 x G1 H1 as1 r1 W1 rx P1 => ?_)⟩
  split at P1
  · rename_i t ht
    split at P1
    · rename_i b hb
      obtain ⟨k1, k2⟩ := ok t b hb
      refine hta _ _ _ ⟨small5 hl, fun q hq => ?_⟩
      have W2 := W1.new (o := .tup cs) hq
      have R2 := Rch.new (as := as1) (o := .tup cs) W1.le hq
      exact ⟨x, q, cs, tnV X.K t, us, b, rfl, upd_same, hc, tyD_ok IF k2 W2 (rx.up (List.prefix_refl _) R2.up) ht, k1, Post.done (Post.from P1 R2) W2 (by simp [Rep])⟩
    · exact False.elim P1
  · exact False.elim P1
end
end RL
set_option Elab.async false
set_option linter.all false
set_option maxRecDepth 100000
set_option maxHeartbeats 4000000
/-! RL34: an own exception's making while another one is handled. -/
namespace RL
open PySem PySem.Spec PyProof.Rows L2
open L2H (PinOk Hot1 RoomH FnH)
def supCxH (P : Program) (w : World) (K : PySem.W.Frag) (mg : Str → Option Value) (base : Heap) (N : List Str) (qual : Str) (scope : Scope) (f : Addr) (cd : Value) (cc : Addr) (A : Around) (outer : List Env) (s : Shared) (H : Hp) (p : Addr × Obj) : Cx :=
  { supCx P w K mg base N qual scope f cd cc A outer s H with calm := false, pn := [p] }
section
variable {P : Program} {w : World} {K : PySem.W.Frag} {mg : Str → Option Value} {base : Heap} {ps : List Str} {qual : Str} {scope : Scope} {f cc C : Addr} {cd : Value} {A : Around} {outer : List Env} {s : Shared} {H : Hp} {us : List Value} {vs : List V}
theorem sup_startH (S : SupS ps scope) {p : Addr × Obj} (hpin : PinOk outer H s p) (e0 : Env0 P w K mg base A outer s H) {cl : Value} {cld : Option Addr} {csl : Array (Option Value)} (hc : K.lookup cc = some ⟨cl, cld, .cell (some (.ref C)), csl⟩) (hl : vs.length = ps.length) (r : Vals vs us) {h1 : Heap} {tk : Nat}
    (hns : h1.Ns s.heap.objs.size fun x => (ps.zip us).reverse.lookup x) (kp : ∀ b o, s.heap.get? b = some o → h1.get? b = some o) : Inv (supCxH P w K mg base ps qual scope f cd cc A outer s H p) [] (vs.map some) H { s with heap := h1, toks := tk } := by
  have noA : ∀ b : Addr, b ∉ (supCxH P w K mg base ps qual scope f cd cc A outer s H p).ex := fun b z => absurd (show b ∈ ([] : List Addr) from z) (by simp)
  have cell : ∀ {y c}, ([("__class__", cc)] : List (Str × Addr)).lookup y = some c → y = "__class__" ∧ c = cc := fun {y c} e => by
    rw [List.lookup_cons] at e
    split at e
    · rename_i q
      exact ⟨beq_iff_eq.mp q, (Option.some.inj e).symm⟩
    · cases e
  have kbase := e0.mod.kin _ _ hc
  obtain ⟨k1, k2⟩ := e0.bs _ _ kbase
  refine ⟨⟨e0.mod, S.kind, rfl, rfl, Nat.le_refl _, fun y z c e1 e2 => (cell e1).1.trans (cell e2).1.symm, fun y hy => ?_, fun y c z _ => ?_, (fun z => Bool.noConfusion (show false = true from z)), Around.frames_deeper e0.frames, .inr ⟨rfl, rfl⟩, fun b z => absurd z (noA b), e0.bs, e0.bsz, fun b _ _ => noA b,
      fun b z => absurd z (noA b), e0.funs, e0.frf⟩,
    rfl, e0.bare, Un.kept kp, ⟨_, hns, fun i y v e1 e2 e3 => ?_⟩, fun y c e => ?_, e0.hok.fresh (Nat.le_refl _), fun y c e => ?_, fun q hq => ?_, e0.hok.kept kp, by rw [List.length_map]; exact hl⟩
  · have hy : scope.names.lookup y = some .cell ∨ scope.names.lookup y = some .free := hy
    rcases hy with hy | hy
    · exact absurd rfl (S.own _ (PySem.mem_of_lookup hy)).1
    · have := (S.own _ (PySem.mem_of_lookup hy)).2 rfl
      exact ⟨cc, by rw [show y = "__class__" from this]; rfl⟩
  · have z : false = true := z
    cases z
  · have ha : vs[i]? = some v := by
      rw [List.getElem?_map] at e2
      cases e : vs[i]? with
      | none => rw [e] at e2; cases e2
      | some a => rw [e] at e2; cases e2; rfl
    obtain ⟨u, hu, rv⟩ := r.get ha
    have hp : ps[i]? = some y := e1
    exact ⟨u, rv, .inl ⟨S.par y (List.mem_of_getElem? hp), zip_lookup S.nd hp hu⟩⟩
  · obtain ⟨_, e⟩ := cell e
    subst e
    exact ⟨_, _, kp _ _ k1, rfl⟩
  · obtain ⟨_, e⟩ := cell e
    subst e
    exact k2
  · have eq : q = p := by simpa using (show q ∈ [p] ++ ([] : List (Addr × Obj)) from hq)
    rw [eq]
    exact ⟨kp p.1 p.2 hpin.get, hpin.free, Nat.ne_of_lt (Heap.lt_size hpin.get), hpin.nofs, hpin.nocell⟩
/-- THE RULE: the def whose body is super().__init__(..), then what rest tells -/
theorem sup_fnH {CX : CXT} {k : Nat} {params : Arguments} {rest : List Stmt} {p0 p1 ap cp pE : Pos} {e : Expr} {es : List Expr} {x0 : Str} {ps' : List Str} {fd : FuncData} {body : List Stmt} {sp : Sp} (S : SupS (x0 :: ps') scope)
    (hbo : body = .Expr (.Call (.Attribute (.Call (.Name "super" p0) [] [] p1) "__init__" ap) (e :: es) [] cp) pE :: rest) (F : SupF P K C f qual params body scope fd) (hpar : ∃ ar, (params.posonlyargs ++ params.args).head? = some ar ∧ ar.arg = x0) (hmg : mg "super" = none)
    (len : ∀ vs H Q E, sp vs H Q E → vs.length = (x0 :: ps').length)
    (hsp : ∀ (cda cc : Addr) (A : Around) (outer : List Env) (s : Shared) (H : Hp) (vs : List V) (Q : VK) (E : XK) (p : Addr × Obj), Hot1 A p → RoomH k (A.deeper (supEnv qual scope s.heap.objs.size f (.ref cda) cc)) → sp vs H Q E →
      ∃ a ta t, vs[0]? = some (.ref a) ∧ H a = some (exo a C none) ∧ PA (supCxH P w K mg base (x0 :: ps') qual scope f (.ref cda) cc A outer s H p) (e :: es) ta ∧ PSs (supCxH P w K mg base (x0 :: ps') qual scope f (.ref cda) cc A outer s H p) rest t ∧
        ∀ Qa : List V → Hp → Prop, (∀ us H1, us.length ≤ 1000 → H1 a = some (exo a C none) → t { nx := fun _ H' => Q .non H', rt := Q } (vs.map some) H1 → Qa us H1) → ta (vs.map some) H Qa)
    (he : ∀ (cda cc L : Addr), starEach (e :: es) (supEnv qual scope L f (.ref cda) cc) = (false, eval e (supEnv qual scope L f (.ref cda) cc)) :: starEach es (supEnv qual scope L f (.ref cda) cc) := by intros; rfl)
    (hev : EvSup qual scope f p0 p1 ap cp (e :: es) := by exact fun _ _ _ => ⟨_, rfl⟩)
    (hpl : ∀ (cda cc L : Addr), (backTo cp (starEach es (supEnv qual scope L f (.ref cda) cc))).any (·.1) = false := by intros; rfl) :
    FnH P w K mg base CX (k + 1) f fd (x0 :: ps') sp := by
  obtain ⟨oc, od, kV, doc, pm, an, cda, ct, osl, cc, cl, cld, csl, ccl, cdd, cvs, ccs, file, tf, rfl, lk, hcd, hcc, hcode, hv2, hfile⟩ := F.ex
  refine ⟨len, fun A outer s H args us vs Q E p hr hot hpin e0 hb r hq => ?_⟩
  have hl := len _ _ _ _ hq
  have KX : K.In s.heap := e0.mod.kin.keeps fun b o z => (e0.bs b o z).1
  have lim : s.heap.NoLimit := e0.mod.nolimit.keeps fun b o z => (e0.bs b o z).1
  refine ks_codeAny_call_defAt (fd := PySem.W.ksFn "__init__" qual params body scope .none kV doc pm an (.ref cda) ct cc) (body := body) (binds := (x0 :: ps').zip us) hr.depth (KX _ _ lk) rfl lim (PySem.W.codeRec_of KX hcd) rfl hb (fun y hy => (S.own y hy).1)
    (fun y hy => S.par _ (List.of_mem_zip hy).1) (fun h1 hns kp => ?_) S.co S.gen S.kind
  obtain ⟨a, ta, t, hv0, ha0, hpa, hps, hta⟩ := hsp cda cc A outer s H vs Q E p hot (hr.deeper _) hq
  have I := sup_startH (qual := qual) (f := f) (cd := .ref cda) (tk := s.toks + ((x0 :: ps').zip us).length) S hpin e0 hcc hl r hns kp
  obtain ⟨nm, q, N, bs, bm, sn, sub, ab, col, dd, k0, k1, k2, k3, k5, hC, hbm⟩ := F.ox.cls
  have hcl : PySem.W.clsIn K C = some { name := nm, bases := bs, mro := .ref C :: bm, ns := N, qualname := q, hasDict := true, slotNames := sn, subclasses := sub, abstract := ab, collection := col, hasDel := false } := by unfold PySem.W.clsIn; rw [hC] <;> rfl
  have K1 : K.In h1 := KX.keeps kp
  obtain ⟨t1, hoa⟩ := exo_at I.hok ha0
  have n1 : h1.Ns mainGlobals mg := (e0.mod.glob.keeps fun b o z => (e0.bs b o z).1).keeps kp
  obtain ⟨mb, n2, n3⟩ := e0.mod.blt
  have n2 : h1.Ns builtinsNs mb := (n2.keeps fun b o z => (e0.bs b o z).1).keeps kp
  subst hbo
  obtain ⟨ar, hp1, hp2⟩ := hpar
  subst hp2
  obtain ⟨u0, hu0, rv0⟩ := r.get hv0
  obtain rfl : u0 = Value.ref a := rv0
  have hslf : ((ar.arg :: ps').zip us).reverse.lookup ar.arg = some (.ref a) := zip_lookup (i := 0) S.nd rfl hu0
  have hCo := K1 _ _ hC
  have hi : interactive (supEnv qual scope s.heap.objs.size f (.ref cda) cc) = false := by
    unfold interactive
    simp [S.kind]
  obtain ⟨pl, hev'⟩ := hev cda cc s.heap.objs.size
  refine ks_wpAt_execs_cons (ks_wpAt_Expr_any (ks_wpAt_MethodCall ?_ hev') hi)
  · refine ks_wpAt_super_base (env := supEnv qual scope s.heap.objs.size f (.ref cda) cc) S.sup S.cls rfl rfl (kp _ _ (KX _ _ lk)) rfl hp1 rfl (K1 _ _ hcode) rfl hv2 hfile F.top ?_
    refine PySem.W.ks_loadName_global S.kind S.sup (PySem.Calls.loadGlobal_builtin (env := supEnv qual scope s.heap.objs.size f (.ref cda) cc) n1 hmg n2 ((n3 _ (by decide +kernel)).trans (show bootBuiltins "super" = some (.type "super") by kernel_rfl)) ⟨rfl, ?_⟩)
    refine wpAny_loadName_free S.kind S.cls rfl ⟨_, K1 _ _ hcc, rfl⟩ ?_
    refine wpAny_loadName_local S.kind (S.par _ List.mem_cons_self) hns hslf ?_
    refine ks_wpAny_isType_cls hCo rfl ⟨rfl, ?_⟩
    refine ks_wpAny_call_super hCo rfl hoa rfl (fun c z => nomatch z) (PySem.W.looks_mroIn K1 F.mro) (fun h2 eo k2 => ?_)
    have I2 := I.kept (h' := h2) (t' := s.toks + ((ar.arg :: ps').zip us).length) k2
    have K2 : K.In h2 := K1.keeps k2
    have J2 : PySem.W.InstAt h2 a _ C none := ⟨k2 _ _ hoa, rfl, rfl, trivial⟩
    have hsup : PySem.W.alongIn K "__init__" (((Value.ref C :: bm).dropWhile (· != .ref C)).drop 1) = some (some (.builtin "ValueError.__init__")) := by
      have z := F.sup
      unfold PySem.W.ks_superIn at z
      rw [hcl] at z
      exact z
    refine PySem.W.kxs_getMethod PySem.W.kxs_ValueError eo (PySem.W.looks_opaque K2 F.opq) (l₀ := .ref C :: bm) (fun A Q E s k q => wpAny_bind ((PySem.W.looks_clsIn K2 hcl) A _ E s k (wpAny_pure q))) rfl K2 hsup (J2.type.andThen (PySem.W.looks_subIn K2 F.sub)) (PySem.W.ks_ne K2 J2 hcl) rfl ?_
    have I3 : Inv (supCxH P w K mg base (ar.arg :: ps') qual scope f (.ref cda) cc A outer s H p) [(h2.objs.size, PySem.W.kxs_mw "ValueError.__init__" a)] (vs.map some) H ⟨h2.push (PySem.W.kxs_mw "ValueError.__init__" a), s.gens, s.drawn, s.toks + ((ar.arg :: ps').zip us).length + 1, s.os⟩ :=
      (I2.kept (h' := h2.push (PySem.W.kxs_mw "ValueError.__init__" a)) (t' := s.toks + ((ar.arg :: ps').zip us).length + 1) fun b u z => Heap.get?_push_of_some _ z).pins_of fun p hp => by
        rw [List.mem_singleton] at hp
        subst hp
        exact ⟨Heap.get?_push_at rfl rfl, I2.hok.fresh (Nat.le_refl _), Nat.ne_of_gt I2.lt, I2.nofs (Nat.le_refl _), fun v z => nomatch z⟩
    refine sup_args hpa I3 (fun er s' z => z.elim) (hta _ fun as H1 hlen hex ht s1 ws rw' I4 => ?_) (he ..) (hpl ..)
    refine sup_call F.ox I4 hex (by rw [← rw'.length, sizeLine_eq]; omega) fun s2 I5 => ?_
    refine wpAt_of_wpAny (wpAny_mono (hps.run [] s2 _ H1 _ I5 ht) (fun fl s3 z => ?_) fun _ _ z => z.elim)
    have fin : ∀ {σ' : L2.St} {H' : Hp} {v : V} {u : Value}, Inv (supCxH P w K mg base (ar.arg :: ps') qual scope f (.ref cda) cc A outer s H p) [] σ' H' s3 → L2.RelV v u → Q v H' → CE outer P w H s Q u s3 :=
      fun {σ' H' v u} J rv q => ⟨v, H', J.os, J.bare, J.base, J.hok, rv, q⟩
    cases fl with
    | ret u =>
      obtain ⟨v, σ', H', J, rv, q⟩ := z
      exact fin J rv q
    | next =>
      obtain ⟨σ', H', J, q⟩ := z
      exact fin (v := V.non) (u := Value.none) J rfl q
    | brk =>
      obtain ⟨_, _, _, q⟩ := z
      exact False.elim q
    | cont =>
      obtain ⟨_, _, _, q⟩ := z
      exact False.elim q
end
end RL
set_option Elab.async false
set_option linter.all false
set_option maxRecDepth 100000
set_option maxHeartbeats 4000000
/-! RL35: raise c(..) from None while an exception is handled. -/
namespace RL
open PySem PySem.Spec PyProof.Rows L2
open L2H (PinOk Hot1 RoomH FnH)
section
variable {P : Program} {w : World} {K : PySem.W.Frag} {mg : Str → Option Value} {base : Heap} {qual : Str} {scope : Scope} {f C : Addr} {fd : FuncData} {params : Arguments} {body : List Stmt} {p0 p1 p2 p3 p4 p5 p6 p7 p8 p9 p10 p11 ap cp pE : Pos} {x y f1 f2 : Str}
theorem xfn1H {CX : CXT} (S : SupS ["self", x] scope) (hbo : body = [.Expr (.Call (.Attribute (.Call (.Name "super" p0) [] [] p1) "__init__" ap) [.Name x p2] [] cp) pE, .Assign [.Attribute (.Name "self" p3) f1 p4] (.Name x p5) p6])
    (F : SupF P K C f qual params body scope fd) (hpar : ∃ ar, (params.posonlyargs ++ params.args).head? = some ar ∧ ar.arg = "self") (hmg : mg "super" = none) (hf1 : PySem.W.findIn K (.ref C) f1 = some none) (hev : EvSup qual scope f p0 p1 ap cp [.Name x p2])
    (hx1 : (x == ("__debug__" : Str)) = false := by decide) (hx2 : (x == ("__classdict__" : Str)) = false := by decide) : FnH P w K mg base CX 2 f fd ["self", x] (spX C [f1]) := by
  refine sup_fnH (hev := hev) S hbo F hpar hmg (fun vs H Q E ⟨a, us, e, hl, _⟩ => by rw [e]; simpa using hl) fun cda cc A outer s H vs Q E p hot hr ⟨a, us, e, hl, ha, hq⟩ => ?_
  match us, hl with
  | [u], _ =>
    subst e
    have v0 : Vis scope "self" := .inl (S.par _ (by simp))
    have v1 : Vis scope x := .inl (S.par _ (by simp))
    refine ⟨a, _, _, rfl, ha, pa_cons (pe_var (i := 1) rfl v1 hx1 hx2) pa_nil, pss_one (ps_ost (pe_var (i := 0) rfl v0) (pe_var (i := 1) rfl v1 hx1 hx2)), fun Qa h => ?_⟩
    refine ⟨u, rfl, h [u] H (by simp) ha ?_⟩
    refine ⟨u, rfl, V.ref a, rfl, a, C, rfl, F.ox, hf1, .inl ⟨ha, fun d h1 h2 => hq d h1 h2⟩⟩
theorem xfn2H {CX : CXT} (S : SupS ["self", x, y] scope) (hbo : body = [.Expr (.Call (.Attribute (.Call (.Name "super" p0) [] [] p1) "__init__" ap) [.Name x p2, .Name y p7] [] cp) pE, .Assign [.Attribute (.Name "self" p3) f1 p4] (.Name x p5) p6, .Assign [.Attribute (.Name "self" p8) f2 p9] (.Name y p10) p11])
    (F : SupF P K C f qual params body scope fd) (hpar : ∃ ar, (params.posonlyargs ++ params.args).head? = some ar ∧ ar.arg = "self") (hmg : mg "super" = none) (hf1 : PySem.W.findIn K (.ref C) f1 = some none) (hf2 : PySem.W.findIn K (.ref C) f2 = some none) (hev : EvSup qual scope f p0 p1 ap cp [.Name x p2, .Name y p7])
    (hx1 : (x == ("__debug__" : Str)) = false := by decide) (hx2 : (x == ("__classdict__" : Str)) = false := by decide) (hy1 : (y == ("__debug__" : Str)) = false := by decide) (hy2 : (y == ("__classdict__" : Str)) = false := by decide) : FnH P w K mg base CX 2 f fd ["self", x, y] (spX C [f1, f2]) := by
  refine sup_fnH (hev := hev) S hbo F hpar hmg (fun vs H Q E ⟨a, us, e, hl, _⟩ => by rw [e]; simpa using hl) fun cda cc A outer s H vs Q E p hot hr ⟨a, us, e, hl, ha, hq⟩ => ?_
  match us, hl with
  | [u, v], _ =>
    subst e
    have v0 : Vis scope "self" := .inl (S.par _ (by simp))
    have v1 : Vis scope x := .inl (S.par _ (by simp))
    have v2 : Vis scope y := .inl (S.par _ (by simp))
    refine ⟨a, _, _, rfl, ha, pa_cons (pe_var (i := 1) rfl v1 hx1 hx2) (pa_cons (pe_var (i := 2) rfl v2 hy1 hy2) pa_nil), pss_cons (ps_ost (pe_var (i := 0) rfl v0) (pe_var (i := 1) rfl v1 hx1 hx2)) (pss_one (ps_ost (pe_var (i := 0) rfl v0) (pe_var (i := 2) rfl v2 hy1 hy2))), fun Qa h => ?_⟩
    refine ⟨u, rfl, v, rfl, h [u, v] H (by simp) ha ?_⟩
    refine ⟨u, rfl, V.ref a, rfl, a, C, rfl, F.ox, hf1, .inl ⟨ha, fun d h1 h2 => ?_⟩⟩
    refine ⟨v, rfl, V.ref a, rfl, a, C, rfl, F.ox, hf2, .inr ⟨d, [(f1, u)], upd_same, by rw [upd_ne h2, upd_same], by simp, ?_⟩⟩
    have e : upd (upd (upd H d (exd d [(f1, u)])) a (exo a C (some d))) d (exd d [(f2, v), (f1, u)]) = upd (upd H d (exd d [(f2, v), (f1, u)])) a (exo a C (some d)) := by
      funext b
      by_cases hb : b = d
      · subst hb
        rw [upd_same, upd_ne h2, upd_same]
      · by_cases hb2 : b = a
        · subst hb2
          rw [upd_ne hb, upd_same, upd_same]
        · rw [upd_ne hb, upd_ne hb2, upd_ne hb, upd_ne hb2, upd_ne hb]
    rw [e]
    exact hq d h1 h2
end
/-- what the raising of x(..) needs while an exception is handled -/
structure XMkH (X : Cx) (x c : Str) (ks : List Str) : Prop where
  ok : ∃ (fI : Addr) (fd : FuncData) (ps : List Str), OexC X.K (He.ga X.K c) ∧ PySem.W.findIn X.K (.ref (He.ga X.K c)) "__init__" = some (some (.ref fI)) ∧ PySem.W.typeIn X.K (.ref fI) = some (.type "function") ∧ FnH X.prog X.w X.K X.mg X.base C8.CX0 2 fI fd ps (spX (He.ga X.K c) ks) ∧ Binds X.K fd ps []
  mg : X.mg x = some (.ref (He.ga X.K c))
section
variable {K : PySem.W.Frag} {X : Cx} {E : XK} {e : Expr} {es : List Expr} {ta : TA} {sa : Sa} {x c : Str} {ks : List Str} {p pos pos' cpos : Pos} {cj : Nat}
theorem as_raiseN (M : XMkH X x c ks) (hr : RoomH 3 X.A) (hc : L2H.HotC X) (tk : Takes X fun cls d _ H => E cls d H) (ha : AA K X E (e :: es) ta sa) (hg : Gl X x := by rfl) (hdb : (x == ("__debug__" : Str)) = false := by decide)
    (he : starEach (e :: es) X.env = (false, eval e X.env) :: starEach es X.env := by rfl) (hpl : (backTo pos (starEach es X.env)).any (·.1) = false := by rfl) :
    AS K X E (.Raise (some (.Call (.Name x p) (e :: es) [] pos)) (some (.Constant .none cj cpos)) pos') (fun _ σ H => tMkO (He.ga K c) (spX (He.ga K c) ks) [] ta σ H fun cls d H' => E cls d H') (sRaise c ks sa) := by
  have e0 := ha.hK
  subst e0
  obtain ⟨fI, fd, ps, T, iC, tI, F1, hb⟩ := M.ok
  refine ⟨rfl, L2H.ps_raiseHN hc tk (L2H.pmk5_oexH T iC tI F1 hr hc hb pass0 hg M.mg ha.pe hdb he hpl), fun ρ ws G H as σ D W S P => ?_⟩
  show ta σ H _
  refine ha.ev ρ ws G H as σ _ W S (PostS.bind P fun ds ws1 vs G1 H1 as1 r1 W1 rs P1 => ?_)
  split at P1
  · rename_i hl
    obtain ⟨hl, hk⟩ := hl
    have lv : vs.length = ks.length := by rw [← rs.len]; exact hl
    refine ⟨by omega, fun a ha0 => ⟨a, vs, by simp, lv, upd_same, fun d hd hda => ⟨rfl, d, (ks.zip vs).reverse, upd_same, by rw [upd_ne hda, upd_same], ?_, ?_⟩⟩⟩
    · rw [upd_ne hda] at hd
      exact hd
    · have hd1 : H1 d = none := by
        rw [upd_ne hda] at hd
        exact hd
      have e : upd (del (upd (upd (upd H1 a (exo a (He.ga X.K c) none)) d (exd d (ks.zip vs).reverse)) a (exo a (He.ga X.K c) (some d))) a) d (.xd (ks.zip vs).reverse) = upd H1 d (.xd (ks.zip vs).reverse) := by
        funext b
        by_cases hb : b = d
        · subst hb
          rw [upd_same, upd_same]
        · rw [upd_ne hb, upd_ne hb]
          by_cases hb2 : b = a
          · subst hb2
            rw [del_same, ha0]
          · rw [del_ne hb2, upd_ne hb2, upd_ne hb, upd_ne hb2]
      rw [e]
      have P2 : PostX X.K E G1 H1 as1 ⟨c, ks.reverse, ds.reverse⟩ ws1 := P1
      refine P2 _ _ (upd G1 d (.xd (ks.zip vs).reverse)) _ as1 (Rch.new W1.le hd1) (W1.new hd1) ⟨rfl, vs.reverse, .inr ⟨d, rfl, ?_⟩, by simpa using hl.symm, (Reps.rev rs).up (List.prefix_refl _) (Rch.new (as := as1) W1.le hd1).up⟩
      rw [upd_same, zip_rev lv.symm]
  · exact False.elim P1
end
end RL
set_option Elab.async false
set_option linter.all false
set_option maxRecDepth 100000
set_option maxHeartbeats 4000000
/-! RL36: try: .. except X as n: a suite that raises. -/
namespace RL
open PySem PySem.Spec PyProof.Rows L2
open L2H (HotC)
/-- the context of such a suite -/
abbrev suiteA (X : Cx) (a : Addr) (pn : List (Addr × Obj)) (xe : Value → Shared → Prop) : Cx := { X with A := X.A.mark (some (.ref a)), calm := false, pn := pn, xe := xe }
section
variable {X : Cx} {x n : Str} {c : Value} {i : Nat} {body suite : List Stmt} {b₀ : Stmt} {np pos pos' : Pos} {tb : WX → TS} {ts : Addr → Value → Option Addr → TS} {Wout : WX}
/-- what is left of the clause when its suite raised -/
abbrev asRest (X : Cx) (n : Str) (pos' : Pos) (hd : Option Value) (x : Value) (s : Shared) : Prop :=
  wpAny (model X.prog X.w) (X.A.mark hd) (do bindName X.env n .none; unbindBehindTheSuite X.env n pos')
    (fun _ s₄ => wpAny (model X.prog X.w) (X.A.mark hd) (passOn "try.except-as" x X.env : Sem Flow) (fun _ _ => False) (notedBy (model X.prog X.w) (X.A.mark hd) X.env (cameBackBy (model X.prog X.w) X.A X.env X.xe)) s₄)
    (fun y s₄ => wpAny (model X.prog X.w) (X.A.mark hd) (setFlight x none) (fun _ s₅ => (notedBy (model X.prog X.w) (X.A.mark hd) X.env (cameBackBy (model X.prog X.w) X.A X.env X.xe)) y s₅) (notedBy (model X.prog X.w) (X.A.mark hd) X.env (cameBackBy (model X.prog X.w) X.A X.env X.xe)) s₄) s
abbrev asEx (X : Cx) (n : Str) (pos' : Pos) (hd : Option Value) : Value → Shared → Prop := fun x s₃ =>
  wpAny (model X.prog X.w) (X.A.mark hd) (noteFrame x X.env) (fun _ s₃' => asRest X n pos' hd x s₃') (notedBy (model X.prog X.w) (X.A.mark hd) X.env (cameBackBy (model X.prog X.w) X.A X.env X.xe)) s₃
theorem asEx_takes {a : Addr} {q : Addr × Obj} {pins : List (Addr × Obj)} (hs : X.stack = X.env :: X.outer) (hf : X.env.frame = some X.env.locals) (hex : X.ex = []) (hN : X.N.Nodup) (hi : X.N[i]? = some n) (hln : X.env.kindOf n = some .local)
    (ok : X.Ok) (hpa : ∀ hd : Option Value, PassesOwnAt (model X.prog X.w) (X.A.mark hd) X.A X.env X.xe) (tk : L2.Takes X Wout) :
    L2.Takes (suiteA X a (q :: (X.pn ++ pins)) (asEx X n pos' (some (.ref a)))) (fun cls d σ H => Wout cls d (σ.set i none) H) := by
  intro u s' xx
  obtain ⟨a2, B, sI, pins', σ', H', cls, d, rfl, J, nb, up, sky, na, os, ag, w⟩ := xx
  have hfr : (X.A.mark (some (.ref a))).frames = some (X.env :: X.outer) := by
    have e : (X.A.mark (some (.ref a))).frames = X.A.frames := rfl
    rw [e, ok.frames, hs]
  have sky' : Sky B (X.env :: X.outer) a2 (Zc cls d) X.env.locals s'.heap := by rw [← hs]; exact sky
  have fin : ∀ h1, HandSPX.HeldZ B (X.env :: X.outer) a2 (Zc cls d) X.env.locals h1 → s'.heap.UpToSlots h1 → asRest X n pos' (some (.ref a)) (.ref a2) { s' with heap := h1 } := fun h1 hh1 up1 => by
    have J3 : Inv (suiteA X a (q :: (X.pn ++ pins)) (asEx X n pos' (some (.ref a)))) pins' σ' H' { s' with heap := h1 } := J.landed nb hh1.1 (up.trans up1) os ag
    obtain ⟨k1, k2, k3, oe, vs, T, oT, ts, he3, hz, hd, hv1, hnT, hTe, hT, hdT, ht3⟩ := id hh1
    have nT : H' T = none := (J.inGround nb).gone hnT
    have notFr : ∀ (b : Addr) (o : Obj) (fv : Array Value), h1.get? b = some o → o.data = .fields fv → b ∉ frs (X.env :: X.outer) := fun b o fv e dd hm => by
      obtain ⟨_, o', e', hnf⟩ := k3.mem hm
      have eo : o = o' := Option.some.inj (e.symm.trans e')
      rw [← eo] at hnf
      exact hnf _ dd
    have locF : X.env.locals ∈ frs (X.env :: X.outer) := List.mem_filterMap.mpr ⟨X.env, List.mem_cons_self, hf⟩
    have fsF : ∀ b, b ∈ X.fs → b ∈ frs (X.env :: X.outer) := fun b hm => by
      obtain ⟨e, he, q⟩ := List.mem_filterMap.mp hm
      exact List.mem_filterMap.mpr ⟨e, List.mem_cons_of_mem _ he, q⟩
    have fa := notFr a2 oe vs he3 hd
    have fT := notFr T oT ts hT hdT
    have S3 : Inv (suiteA X a (q :: (X.pn ++ pins)) (asEx X n pos' (some (.ref a)))) ((a2, oe) :: (T, oT) :: pins') σ' H' { s' with heap := h1 } :=
      ⟨J3.ok, J3.os, J3.bare, J3.base, J3.loc, J3.cell, J3.free, J3.freeC, fun p hp => by
        rcases List.mem_append.mp hp with hp | hp
        · exact J3.pin p (List.mem_append_left _ hp)
        · rcases List.mem_cons.mp hp with z | hp
          · rw [z]
            exact ⟨he3, na, fun z2 => fa (by rw [show a2 = X.env.locals from z2]; exact locF), fun z2 => fa (fsF _ z2), fun v z2 => by
              have z3 : oe.data = .cell v := z2
              rw [hd] at z3
              cases z3⟩
          · rcases List.mem_cons.mp hp with z | hp
            · rw [z]
              exact ⟨hT, nT, fun z2 => fT (by rw [show T = X.env.locals from z2]; exact locF), fun z2 => fT (fsF _ z2), fun v z2 => by
                have z3 : oT.data = .cell v := z2
                rw [hdT] at z3
                cases z3⟩
            · exact J3.pin p (List.mem_append_right _ hp), J3.hok, J3.len⟩
    refine gone_ok (X := suiteA X a (q :: (X.pn ++ pins)) (asEx X n pos' (some (.ref a)))) S3 hN hi hln fun s6 S6 => ?_
    have J6 : Inv X pins (σ'.set i none) H' s6 := ⟨ok, S6.os, S6.bare, S6.base, S6.loc, S6.cell, S6.free, S6.freeC, fun p hp => S6.pin p (List.mem_append_left _ (List.mem_cons_of_mem _ hp)), S6.hok, S6.len⟩
    have JX : Inv X pins σ' H' sI := ⟨ok, J.os, J.bare, J.base, J.loc, J.cell, J.free, J.freeC, fun p hp => J.pin p (List.mem_append_left _ (List.mem_cons_of_mem _ hp)), J.hok, J.len⟩
    have pa := S6.pin (a2, oe) (List.mem_append_right _ List.mem_cons_self)
    have pT := S6.pin (T, oT) (List.mem_append_right _ (List.mem_cons_of_mem _ List.mem_cons_self))
    have ga : s6.heap.get? a2 = some oe := pa.1
    have gT : s6.heap.get? T = some oT := pT.1
    have far : ∀ b o, sI.heap.get? b = some o → b ≠ a2 ∧ b ≠ T := fun b o e => by
      by_cases hb : b ∈ frs X.stack
      · rw [hs] at hb
        exact ⟨fun z => fa (by rw [← z]; exact hb), fun z => fT (by rw [← z]; exact hb)⟩
      · have q := nb b o e hb
        exact ⟨fun z => by
          rw [z, k2] at q
          exact (nomatch q), fun z => by
          rw [z, hnT] at q
          cases q⟩
    have far0 : ∀ b o, X.s_0.heap.get? b = some o → b ≠ a2 ∧ b ≠ T := fun b o e => by
      obtain ⟨o', q⟩ := JX.base.there b o e (by rw [hex]; simp)
      exact far b o' q
    have farP : ∀ p ∈ X.pn ++ pins, p.1 ≠ a2 ∧ p.1 ≠ T := fun p hp => far p.1 p.2 (JX.pin p hp).1
    obtain ⟨G, g1, g2⟩ := restrict s6.heap fun b => !(decide (b = a2) || decide (b = T))
    have gIn : ∀ b o, G.get? b = some o → s6.heap.get? b = some o ∧ b ≠ a2 ∧ b ≠ T := fun b o e => by
      cases q : (!(decide (b = a2) || decide (b = T))) with
      | false =>
        rw [g2 b q] at e
        cases e
      | true =>
        rw [g1 b q] at e
        simp only [Bool.not_eq_true', Bool.or_eq_false_iff, decide_eq_false_iff_not] at q
        exact ⟨e, q.1, q.2⟩
    have gOf : ∀ b o, b ≠ a2 → b ≠ T → s6.heap.get? b = some o → G.get? b = some o := fun b o h1 h2 e => by
      rw [g1 b (by simp [h1, h2])]
      exact e
    have I6 : Inv X pins (σ'.set i none) H' { s6 with heap := G } := J6.less (fun b o e => (gIn b o e).1) gOf ⟨oe, vs, ga, hd⟩ ⟨oT, ts, gT, hdT⟩ na nT far0 farP
    have B6in : ∀ b o, (PySem.W.hideAll G (frs X.stack)).get? b = some o → s6.heap.get? b = some o := fun b o e => (gIn b o (PySem.W.of_hideAll _ e)).1
    have Bno : ∀ b, (b = a2 ∨ b = T) → (PySem.W.hideAll G (frs X.stack)).get? b = none := fun b hb => by
      cases q : (PySem.W.hideAll G (frs X.stack)).get? b with
      | none => rfl
      | some o =>
        obtain ⟨_, n1, n2⟩ := gIn b o (PySem.W.of_hideAll _ q)
        rcases hb with z | z
        · exact absurd z n1
        · exact absurd z n2
    have hh6 : HandSPX.HeldZ (PySem.W.hideAll G (frs X.stack)) (X.env :: X.outer) a2 (Zc cls d) X.env.locals s6.heap := by
      refine ⟨B6in, Bno a2 (.inl rfl), ?_, oe, vs, T, oT, ts, ga, hz, hd, hv1, Bno T (.inr rfl), hTe, gT, hdT, ht3⟩
      have ff := funFrames_none (B := PySem.W.hideAll G (frs X.stack)) J6.stack fun b hb => PySem.W.hideAll_none _ hb
      rw [← hs]
      exact ff
    show wpAny (model X.prog X.w) (X.A.mark (some (.ref a))) (PySem.passOn "try.except-as" (.ref a2) X.env : Sem Flow) (fun _ _ => False) _ s6
    unfold PySem.passOn
    refine wpAny_bind (wpAny_field ga hd hv1 ?_)
    rw [if_neg (show ¬ ((Value.ref T == Value.none) = true) from by simp)]
    have goOn : wpAny (model X.prog X.w) (X.A.mark (some (.ref a))) (setFlight (.ref a2) X.env.frame) (fun _ s7 => wpAny (model X.prog X.w) (X.A.mark (some (.ref a))) (throw (.ref a2) : Sem Flow) (fun _ _ => False) (notedBy (model X.prog X.w) (X.A.mark (some (.ref a))) X.env (cameBackBy (model X.prog X.w) X.A X.env X.xe)) s7) (notedBy (model X.prog X.w) (X.A.mark (some (.ref a))) X.env (cameBackBy (model X.prog X.w) X.A X.env X.xe)) s6 := by
      rw [hf]
      refine HandSPX.setFlight_onZ hh6 fun h7 hh7 up7 => wpAny_throw (hpa _ _ _ (tk _ _ ?_))
      refine ⟨a2, PySem.W.hideAll G (frs X.stack), { s6 with heap := G }, pins, σ'.set i none, H', cls, d, rfl, I6, fun b o e hb => PySem.W.hideAll_get _ e hb, ?_, .inr (.inr (by rw [← hs] at hh7; exact hh7)), na, rfl, J6.bare, w⟩
      exact Heap.UpToSlots.trans (Heap.UpToSlots.of_keeps fun b o e => (gIn b o e).1) up7
    first
      | exact wpAny_bind (wpAny_pure (wpAny_bind goOn))
      | exact wpAny_bind goOn
  show wpAny (model X.prog X.w) (X.A.mark (some (.ref a))) (noteFrame (.ref a2) X.env) _ _ _
  rcases sky' with ⟨hB, hn, hl, oe, vs, he0, hz, hd, hv1⟩ | fl | hh
  · exact HandSPX.look_newZ Zc.steady hfr hl hf he0 hB hn hd hv1 hz fin
  · exact HandSPX.looks_onZ Zc.steady hfr hf fl fin
  · exact HandSPX.againZ hf hh.2.2.2 (fin s'.heap hh (Heap.UpToSlots.refl _))
theorem ps_try_asX (hs : X.stack = X.env :: X.outer) (hf : X.env.frame = some X.env.locals) (hex : X.ex = []) (hN : X.N.Nodup) (hi : X.N[i]? = some n) (hln : X.env.kindOf n = some .local) (hc : Names X x c)
    (hpa : ∀ hd : Option Value, PassesOwnAt (model X.prog X.w) (X.A.mark hd) X.A X.env X.xe) (tk : L2.Takes X Wout)
    (hb : ∀ (W : WX) (pn : List (Addr × Obj)) (xe : Value → Shared → Prop), L2N.Takes (X.tr pn xe) W → PassesOwn (model X.prog X.w) X.A X.env xe → PSs (X.tr pn xe) body (tb W))
    (hsu : ∀ (a : Addr) (oe : Obj) (cls : Value) (d : Option Addr) (pn : List (Addr × Obj)) (xe : Value → Shared → Prop), L2N.Zn cls d oe → (∃ vs, oe.data = .fields vs) → L2.Takes (suiteA X a ((a, oe) :: pn) xe) (fun cls d σ H => Wout cls d (σ.set i none) H) →
      HotC (suiteA X a ((a, oe) :: pn) xe) → PSs (suiteA X a ((a, oe) :: pn) xe) (b₀ :: suite) (ts a cls d)) :
    PS X (.Try body [.ExceptHandler (some (.Name x np)) (some n) (b₀ :: suite) pos'] [] [] pos) (fun D σ H => tb (wAs X.K c i ts Wout D) D σ H) := by
  refine ⟨fun pins s σ H D I h => ?_⟩
  have ok := I.ok
  have hfr : X.A.frames = some (X.env :: X.outer) := by rw [ok.frames, hs]
  have hloc : Loc X.env.scope n := .inl hln
  refine wpAny_Try_except ?_
  refine wpAny_mono ((hb (wAs X.K c i ts Wout D) (X.pn ++ pins) (fun e s₁ => wpAny (model X.prog X.w) X.A (noteFrame e X.env) (fun _ s₂ => wpAny (model X.prog X.w) X.A (setFlight e none) (fun _ s₃ =>
    wpAny (model X.prog X.w) X.A (handleBy e X.env [.ExceptHandler (some (.Name x np)) (some n) (b₀ :: suite) pos']) (SP X pins D) X.xe s₃) X.xe s₂) X.xe s₁) (fun u s' xx => ?_) PassesOwn.looking).run [] s σ H D (I.toTry _) h) (fun f s1 hsp => ?_) (fun e s1 he => he)
  · -- the catch
    obtain ⟨a, B, sI, pins', σ', H', cls, d, rfl, J', nb, up, sky, na, os, ag, b, hb1, hyes, hno⟩ := xx
    have J : Inv X pins σ' H' sI := J'.ofTry ok
    have sky' : Sky B (X.env :: X.outer) a (L2N.Zn cls d) X.env.locals s'.heap := by rw [← hs]; exact sky
    show wpAny (model X.prog X.w) X.A (noteFrame (.ref a) X.env) _ _ _
    refine L2N.Sky.land L2N.Zn.steady hfr hf sky' fun h3 fl3 up3 => ?_
    have J3 : Inv X pins σ' H' { s' with heap := h3 } := J.landed nb fl3.1 (up.trans up3) os ag
    obtain ⟨oe3, vs3, he3, hz3, hd3⟩ := fl3.there
    have notFr : ∀ {h : Heap} {o : Obj} {vs : Array Value}, h.FunFrames B (X.env :: X.outer) → h.get? a = some o → o.data = .fields vs → a ∉ frs (X.env :: X.outer) := fun {h o vs} ff e dd hm => by
      obtain ⟨_, o', e', hnf⟩ := ff.mem hm
      rw [e] at e'; cases e'
      exact hnf _ dd
    have nfr := notFr fl3.2.2.1 he3 hd3
    have nL : a ≠ X.env.locals := fun z => nfr (List.mem_filterMap.mpr ⟨X.env, List.mem_cons_self, by rw [hf, z]⟩)
    have nF : a ∉ X.fs := fun hm => by
      obtain ⟨e, he, q⟩ := List.mem_filterMap.mp hm
      exact nfr (List.mem_filterMap.mpr ⟨e, List.mem_cons_of_mem _ he, q⟩)
    have S3 := J3.suite he3 hd3 na nL nF
    refine wpAny_handleBy_cons (codeAny_handlers_test ?_) (by intro q; cases q)
    have LT : PySem.W.Looks (model X.prog X.w) h3 (typeOf (.ref a)) cls := fun A Q E s k q => wpAny_typeOf_ref (k _ _ he3) (by rw [hz3.1]; exact q)
    have LM := PySem.W.exm_one (M := model X.prog X.w) (J3.kIn) LT hb1
    have test : ∀ {Q : Value → Shared → Prop} {E : Value → Shared → Prop}, Q c { s' with heap := h3 } → wpAny (model X.prog X.w) (X.A.mark (some (.ref a))) (eval (.Name x np) X.env) Q E { s' with heap := h3 } := fun {Q E} q => by
      obtain ⟨hg, hdbg, hm | ⟨hm, hv, hnn⟩⟩ := hc
      · exact ld_glob (X := X.suite a ((a, oe3) :: (X.pn ++ pins))) S3 hg hm q hdbg
      · exact ld_blt (X := X.suite a ((a, oe3) :: (X.pn ++ pins))) S3 hg hm hv q hnn hdbg
    refine test (LM.here ?_)
    cases b with
    | true =>
      refine codeAny_handlers_suite_as ?_
      refine HandSPX.lands_againZ fl3 fun h4 fl4 up4 => ?_
      have J4 : Inv X pins σ' H' { s' with heap := h4 } := J.landed nb fl4.1 ((up.trans up3).trans up4) os ag
      obtain ⟨oe4, vs4, he4, hz4, hd4⟩ := fl4.there
      have S4 := J4.suite he4 hd4 na nL nF
      refine store_ok (X := X.suite a ((a, oe4) :: (X.pn ++ pins))) (v := .ref a) S4 hN hi hloc rfl (fun s5 S5 => ?_) (.inr hln)
      have tkS := asEx_takes (a := a) (q := (a, oe4)) (pins := pins) (pos' := pos') hs hf hex hN hi hln ok hpa tk
      have hot : HotC (suiteA X a ((a, oe4) :: (X.pn ++ pins)) (asEx X n pos' (some (.ref a)))) := ⟨(a, oe4), ⟨rfl, vs4, hd4, hz4.2.2 vs4 hd4⟩, List.mem_cons_self⟩
      have S5' : Inv (suiteA X a ((a, oe4) :: (X.pn ++ pins)) (asEx X n pos' (some (.ref a)))) [] (σ'.set i (some (.ref a))) H' s5 := ⟨⟨S5.ok.mod, S5.ok.kind, S5.ok.glob, S5.ok.blt, S5.ok.above, S5.ok.inj, S5.ok.has, S5.ok.cab, (fun z => absurd (show false = true from z) Bool.false_ne_true), S5.ok.frames, S5.ok.stk, S5.ok.exf, S5.ok.bs, S5.ok.bsz, S5.ok.noex, S5.ok.exfs, S5.ok.funs, S5.ok.frf⟩, S5.os, S5.bare, S5.base, S5.loc, S5.cell, S5.free, S5.freeC, S5.pin, S5.hok, S5.len⟩
      refine wpAny_mono ((hsu a oe4 cls d (X.pn ++ pins) (asEx X n pos' (some (.ref a))) hz4 ⟨_, hd4⟩ tkS hot).run [] s5 _ H' _ S5' (hyes rfl a na)) (fun f s6 hsp => ?_) (fun _ _ z => z)
      have back : ∀ {σ6 : L2.St} {H6 : Hp}, Inv (suiteA X a ((a, oe4) :: (X.pn ++ pins)) (asEx X n pos' (some (.ref a)))) [] σ6 H6 s6 → Inv X pins σ6 H6 s6 := fun {σ6 H6} S6 =>
        ⟨ok, S6.os, S6.bare, S6.base, S6.loc, S6.cell, S6.free, S6.freeC, fun p hp => S6.pin p (List.mem_append_left _ (List.mem_cons_of_mem _ hp)), S6.hok, S6.len⟩
      have end_ : ∀ {σ6 : L2.St} {H6 : Hp} {Q : Shared → Prop}, Inv (suiteA X a ((a, oe4) :: (X.pn ++ pins)) (asEx X n pos' (some (.ref a)))) [] σ6 H6 s6 → (∀ s7, Inv X pins (σ6.set i none) H6 s7 → Q s7) →
          wpAny (model X.prog X.w) X.A (do bindName X.env n .none; unbindBehindTheSuite X.env n pos') (fun _ s7 => Q s7) X.xe s6 := fun {σ6 H6 Q} S6 hq => gone_ok (back S6) hN hi hln hq
      cases f with
      | next =>
        obtain ⟨σ6, H6, S6, q6⟩ := hsp
        exact end_ S6 fun s7 J7 => ⟨_, _, J7, q6⟩
      | brk =>
        obtain ⟨σ6, H6, S6, q6⟩ := hsp
        exact end_ S6 fun s7 J7 => ⟨_, _, J7, q6⟩
      | cont =>
        obtain ⟨σ6, H6, S6, q6⟩ := hsp
        exact end_ S6 fun s7 J7 => ⟨_, _, J7, q6⟩
      | ret u =>
        obtain ⟨v6, σ6, H6, S6, r6, q6⟩ := hsp
        exact end_ S6 fun s7 J7 => ⟨_, _, _, J7, r6, q6⟩
    | false =>
      show wpAny _ X.A (handleBy (.ref a) X.env []) _ _ _
      refine wpAny_handleBy_nil ?_
      have fl3 := L2H.flyingZ_imp (fun o z => L2N.Zn.zc z) fl3
      obtain ⟨k1, k2, k3, oe, vs, T, oT, ts', he, hz, hd, h1, hr⟩ := id fl3
      unfold PySem.passOn
      refine wpAny_bind (wpAny_field he hd h1 ?_)
      rw [if_neg (show ¬ ((Value.ref T == Value.none) = true) from by simp)]
      have fin : wpAny (model X.prog X.w) X.A (setFlight (.ref a) X.env.frame) (fun _ s4 => wpAny (model X.prog X.w) X.A (throw (.ref a) : Sem Flow) (SP X pins D) X.xe s4) X.xe { s' with heap := h3 } := by
        rw [hf]
        refine HandSPX.setFlight_upZ fl3 fun h4 hh4 up4 => wpAny_throw (tk _ _ ?_)
        exact ⟨a, B, sI, pins, σ', H', cls, d, rfl, J, nb, (up.trans up3).trans up4, .inr (.inr (by rw [hs]; exact hh4)), na, os, ag, hno rfl⟩
      first
        | exact wpAny_bind (wpAny_pure (wpAny_bind fin))
        | exact wpAny_bind fin
  · cases f with
    | next =>
      obtain ⟨σ', H', J', q⟩ := hsp
      exact wpAny_execs_nil ⟨σ', H', J'.ofTry ok, q⟩
    | brk =>
      obtain ⟨σ', H', J', q⟩ := hsp
      exact ⟨σ', H', J'.ofTry ok, q⟩
    | cont =>
      obtain ⟨σ', H', J', q⟩ := hsp
      exact ⟨σ', H', J'.ofTry ok, q⟩
    | ret u =>
      obtain ⟨v, σ', H', J', r, q⟩ := hsp
      exact ⟨v, σ', H', J'.ofTry ok, r, q⟩
end
end RL
set_option Elab.async false
set_option linter.all false
set_option maxRecDepth 100000
set_option maxHeartbeats 4000000
/-! RL37: try: return e / except X as n: raise c(..) from None. -/
namespace RL
open PySem PySem.Spec PyProof.Rows L2
open L2H (HotC RoomH)
/-- an expression, what it raises wished for at the slots -/
structure AX (K : PySem.W.Frag) (X : Cx) (W : WX) (e : Expr) (te : TE) (f : Se) : Prop where
  hK : X.K = K
  pe : PE X e te
  ev : ∀ ρ ws G H as σ Q, Wd K G H as ws → SRep K as G ρ σ → Post K (WE W σ) (Rep K) G H as (f ρ ws) Q → te σ H Q
section
variable {X : Cx} {pins : List (Addr × Obj)} {σ : L2.St} {H : Hp} {s : Shared} {C g : Addr}
theorem run_cmS {CX : CXT} {k : Nat} {q : Addr} {sp : Sp} {E : XK} {Q : VK} {us : List Value} {vs : List V} (F : FnR X.prog X.w X.K X.mg X.base CX k g sp) (hr : Room k X.A) (hx : PassesAt CX X σ E) (I : Inv X ((q, PySem.W.methodObj (.ref g) (.ref C)) :: pins) σ H s)
    (r : Vals vs us) (h : sp (.ref C :: vs) H Q E) : wpAny (model X.prog X.w) X.A (call (.ref q) us) (EP X pins σ Q) X.xe s := by
  have z : wpAny (model X.prog X.w) X.A (call (.ref q) us) (EP X ((q, PySem.W.methodObj (.ref g) (.ref C)) :: pins) σ Q) X.xe s :=
    wpAny_call (PySem.W.method_call (ClX.pin_at I) (codeAny_mono (F X.A X.stack s H (.ref C :: us) (.ref C :: vs) Q E hr I.env0 (.cons rfl r) h) fun r s' hq => by
      cases r with
      | error e => exact hx _ H s e s' I hq
      | ok fl =>
        cases fl with
        | ret u => exact I.after hq
        | next => exact False.elim hq
        | brk => exact False.elim hq
        | cont => exact False.elim hq))
  exact thn z fun _ _ y => ClX.unpinE y
end
def tCMethS (C : Addr) (sp : Sp) (E : L2.St → XK) (t : TA) : TE := fun σ H Q => t σ H fun vs H2 => sp (.ref C :: vs) H2 Q (E σ)
def sCmX (c : Str) (m : Mf) (a : Sa) : Se := fun ρ ws => (nox (a ρ ws)).bind fun ds ws1 => m (.cls c :: ds) ws1
section
variable {K : PySem.W.Frag} {X : Cx} {W : WX} {e : Expr} {es : List Expr} {te : TE} {se : Se} {ta : TA} {sa : Sa} {pos p apos : Pos} {k : Nat} {m : Mf} {c f x : Str}
theorem ax_cm {pl : Sem Bool} {mth : Str} {np : Pos} (tk : L2N.Takes X W) (C : @CmC kdN X k E0 x c mth m) (hr : Room k X.A) (ha : AA K X E0 (e :: es) ta sa) (hg : Gl X x := by rfl) (hdb : (x == ("__debug__" : Str)) = false := by decide)
    (hst : starEach (e :: es) X.env = (false, eval e X.env) :: starEach es X.env := by rfl) (hpl : (backTo pos (starEach es X.env)).any (·.1) = false := by rfl)
    (ht : eval (.Call (.Attribute (.Name x np) mth apos) (e :: es) [] pos) X.env = (do
      let ov ← eval (.Name x np) X.env
      standAt apos.atName
      let (f, first) ← holding [ov] (getMethod ov mth pl)
      callWith pos f first (backTo pos (starEach (e :: es) X.env)) (backToKw pos (keywordEach [] X.env))) := by rfl) :
    AX K X W (.Call (.Attribute (.Name x np) mth apos) (e :: es) [] pos) (tCMethS (He.ga K c) (spM K m) (WE W) ta) (sCmX c m sa) := by
  have e0 := ha.hK
  subst e0
  obtain ⟨mc, pp, g, fd, ps, h1, h2, h3, h4⟩ := CmC.ok (kd := kdN) C
  refine ⟨rfl, ⟨fun pins s σ H Q I h => ?_⟩, fun ρ ws G H as σ Q W S P => ha.ev ρ ws G H as σ _ W S (nox_post (Post.bind P fun ds ws1 vs G1 H1 as1 r1 W1 rs P1 => ?_))⟩
  · refine PySem.W.methodCall_KW (pl := pl) (thn ((pe_glob (X := X) (pos := np) (v := .ref (He.ga X.K c)) hg (CmC.mg (kd := kdN) C) rfl hdb).run pins s σ H (fun v H1 => v = .ref (He.ga X.K c) ∧ H1 = H) I ⟨rfl, rfl⟩) fun u s1 hh => ?_) ht
    obtain ⟨x1, H1, I1, rx, ex, eH⟩ := hh
    subst ex
    rw [eH] at I1
    obtain rfl : u = Value.ref (He.ga X.K c) := rx
    refine ClX.getmethcm_ok I1 h1 h2 fun s2 I2 => ?_
    refine ClX.callwith_cm I2 (ClX.base_none I1 (Nat.le_refl _)) h2.fi (thn (ha.pe.run pos _ s2 σ H _ I2 h) fun us s3 ⟨vs, H2, I3, rv, q2⟩ => ⟨⟨ClX.pin_at I3, I3.kIn⟩, ?_⟩) hst hpl
    exact run_cmS (@fnr_of kdN _ _ _ _ _ _ _ _ _ _ h3 h4) hr (L2N.passAt tk σ) I3 rv q2
  · exact ⟨G1, as1, ws1, .cls c :: ds, W1, Reps.cons (by simp [Rep]) rs, P1⟩
end
/-! ### the suite's arguments: the exception pinned -/
theorem RepX.up {K : PySem.W.Frag} {as bs : List Addr} {G G' : Hp} {e : Ex} {cls : Value} {dd : Option Addr} (h : RepX K as G e cls dd) (hp : as <+: bs) (hG : Same G G') : RepX K bs G' e cls dd := by
  obtain ⟨h1, vs, h2, h3, h4⟩ := h
  exact ⟨h1, vs, h2.up hG, h3, h4.up hp hG⟩
structure AH (K : PySem.W.Frag) (X : Cx) (a : Addr) (cls : Value) (d : Option Addr) (i : Nat) (e : Expr) (te : TE) (f : Ex → Se) : Prop where
  hK : X.K = K
  pe : PE X e te
  ev : ∀ ex ρ ws G H as σ Q, σ[i]? = some (some (.ref a)) → RepX K as G ex cls d → Wd K G H as ws → SRep K as G ρ σ → Post K E0 (Rep K) G H as (f ex ρ ws) Q → te σ H Q
structure AHa (K : PySem.W.Frag) (X : Cx) (a : Addr) (cls : Value) (d : Option Addr) (i : Nat) (es : List Expr) (ta : TA) (f : Ex → Sa) : Prop where
  hK : X.K = K
  pe : PA X es ta
  ev : ∀ ex ρ ws G H as σ Q, σ[i]? = some (some (.ref a)) → RepX K as G ex cls d → Wd K G H as ws → SRep K as G ρ σ → Post K E0 (Reps K) G H as (f ex ρ ws) Q → ta σ H Q
/-- e.f -/
def sXp (cs : List Str) (f : Str) : Ex → Se := fun ex ρ ws => if ex.c ∈ cs then R.ofO ((ex.ks.zip ex.l).lookup f) ws else .bad
section
variable {K : PySem.W.Frag} {X : Cx} {a : Addr} {cls : Value} {d : Option Addr} {i : Nat} {e e2 : Expr} {es : List Expr} {te te2 : TE} {ta : TA} {pos np : Pos}
theorem aj_of {f : Se} (h : AE K X E0 e te f) : AH K X a cls d i e te (fun _ => f) := ⟨h.hK, h.pe, fun ex ρ ws G H as σ Q _ _ W S P => h.ev ρ ws G H as σ Q W S P⟩
theorem aj_op {op : Operator} {r : R2} {f : List Ce → D → D → Option D} {s1 s2 : Ex → Se} (ho : OpR X (binaryOp op) r) (h : OpD K r f) (ha : AH K X a cls d i e te s1) (hb : AH K X a cls d i e2 te2 s2) : AH K X a cls d i (.BinOp e op e2 pos) (tOp r te te2) (fun ex => sOp f (s1 ex) (s2 ex)) :=
  ⟨ha.hK, pe_op ho ha.pe hb.pe, fun ex ρ ws G H as σ Q hi rx W S P => by
    refine ha.ev ex ρ ws G H as σ _ hi rx W S (Post.bind P fun x ws1 v G1 H1 as1 r1 W1 rx1 P1 => ?_)
    refine hb.ev ex ρ ws1 G1 H1 as1 σ _ hi (rx.up r1.pre r1.up) W1 (S.up r1.pre r1.up) (Post.bind P1 fun y ws2 u G2 H2 as2 r2 W2 ry P2 => ?_)
    obtain ⟨z, e, P3⟩ := Post.ofO P2
    exact h ws2 G2 H2 as2 v u x y z Q W2 (rx1.up r2.pre r2.up) ry e fun v' G' H' as' q w rep => P3 v' G' H' as' q w rep⟩
theorem aja_nil (hK : X.K = K := by rfl) : AHa K X a cls d i [] tNil (fun _ => sNil) := ⟨hK, pa_nil, fun ex ρ ws G H as σ Q _ _ W S P => evNil ρ ws G H as σ Q W S P⟩
theorem aja_cons {s1 : Ex → Se} {sa : Ex → Sa} (ha : AH K X a cls d i e te s1) (hr : AHa K X a cls d i es ta sa) (hs : starEach (e :: es) X.env = (false, eval e X.env) :: starEach es X.env := by rfl) : AHa K X a cls d i (e :: es) (tCons te ta) (fun ex => sCons (s1 ex) (sa ex)) :=
  ⟨ha.hK, pa_cons ha.pe hr.pe hs, fun ex ρ ws G H as σ Q hi rx W S P => by
    refine ha.ev ex ρ ws G H as σ _ hi rx W S (Post.bind P fun x ws1 bx G1 H1 as1 r1 W1 rx1 P1 => ?_)
    refine hr.ev ex ρ ws1 G1 H1 as1 σ _ hi (rx.up r1.pre r1.up) W1 (S.up r1.pre r1.up) (Post.bind P1 fun xs ws2 vs G2 H2 as2 r2 W2 rs P2 => ?_)
    exact Post.done P2 W2 (Reps.cons (rx1.up r2.pre r2.up) rs)⟩
theorem aj_xf {n f : Str} {oe : Obj} {cs : List Str} (T : XfT K cs f) (hp : (a, oe) ∈ X.pn) (hz : Zc cls d oe) (hdat : ∃ vs, oe.data = .fields vs) (hi : X.N[i]? = some n) (hv : Vis X.env.scope n) (hd : (n == ("__debug__" : Str)) = false := by decide) (hcd : (n == ("__classdict__" : Str)) = false := by decide) (hK : X.K = K := by rfl)
    (hb : attributeBase (.Name n np) f X.env (eval (.Name n np) X.env) = eval (.Name n np) X.env := by rfl) :
    AH K X a cls d i (.Attribute (.Name n np) f pos) (fun σ H Q => σ[i]? = some (some (.ref a)) ∧ ∃ (C dd : Addr) (fs : List (Str × V)) (v : V), cls = .ref C ∧ d = some dd ∧ H dd = some (.xd fs) ∧ fs.lookup f = some v ∧ XfC K C ∧ PySem.W.findIn K (.ref C) f = some none ∧ Q v H) (sXp cs f) := by
  subst hK
  refine ⟨rfl, ⟨fun pins s σ H Q I h => ?_⟩, fun ex ρ ws G H as σ Q hi rx W S P => ?_⟩
  · obtain ⟨hσ, C, dd, fs, v, ec, ed, e2, e3, T1, hno, q⟩ := h
    refine attr_of hb (thn ((pe_var (pos := np) (i := i) hi hv hd hcd).run pins s σ H (fun v H1 => v = .ref a ∧ H1 = H) I ⟨.ref a, hσ, rfl, rfl⟩) fun u s1 hh => ?_)
    obtain ⟨x1, H1, I1, rx, ex, eH⟩ := hh
    subst ex
    rw [eH] at I1
    obtain rfl : u = Value.ref a := rx
    obtain ⟨f1, f2, f3⟩ := I1.pin (a, oe) (List.mem_append_left _ hp)
    obtain ⟨us, f4⟩ := hdat
    obtain ⟨mA, hns, hr⟩ := (show ObjOk X.prog X.w H s1.heap dd (.xd fs) from I1.hok dd _ e2)
    obtain ⟨od, ho, hl⟩ := lookIn_ns hns
    obtain ⟨u, hu, ru⟩ := RelO.some_of (v := v) (o := mA f) (by rw [← e3]; exact hr f)
    have J : PySem.W.InstAt s1.heap a oe C (some od) := ⟨f1, by rw [hz.1, ec], by unfold PySem.W.notCls; rw [f4] <;> rfl, by rw [hz.2, ed]; exact ho⟩
    exact HandSPX.exc_get I1.kIn J T1.ga T1.gg T1.exC (PySem.W.findObj_own T1.hdC hno rfl (by rw [hl, hu])) (handed_of ru) ⟨v, H, I1.tok _, ru, q⟩
  · have P : Post X.K E0 (Rep X.K) G H as (if ex.c ∈ cs then R.ofO ((ex.ks.zip ex.l).lookup f) ws else .bad) Q := P
    split at P
    · rename_i hc
      obtain ⟨y, ey, P2⟩ := Post.ofO P
      obtain ⟨g1, vs, g2, g3, g4⟩ := rx
      obtain ⟨v, g5, g6⟩ := lookup_rep g4 ey
      rcases g2 with ⟨_, e2⟩ | ⟨b, e1, e2⟩
      · rw [e2] at ey
        simp at ey
      · exact ⟨hi, _, b, _, v, g1, e1, W.le _ _ e2, g5, (T _ hc).1, (T _ hc).2, Post.done P2 W g6⟩
    · exact False.elim P
end
def sRaiseN (c : Str) (ks : List Str) (a : Sa) : Ss := fun ρ ws => (nox (a ρ ws)).bind fun ds ws1 => if ds.length = ks.length ∧ ks.length ≤ 900 then .ex ⟨c, ks.reverse, ds.reverse⟩ ws1 else .bad
/-- what is left to say behind the arguments of an own exception -/
theorem raise_end {K : PySem.W.Frag} {E : XK} {c : Str} {ks : List Str} {G1 H1 : Hp} {as1 : List Addr} {ws1 : List Ce} {ds : List D} {vs : List V} (hl : ds.length = ks.length) (hk : ks.length ≤ 900) (W1 : Wd K G1 H1 as1 ws1) (rs : Reps K as1 G1 ds vs)
    (P2 : PostX K E G1 H1 as1 ⟨c, ks.reverse, ds.reverse⟩ ws1) : vs.length ≤ 1000 ∧ ∀ a, H1 a = none → spX (He.ga K c) ks (.ref a :: (vs ++ [])) (upd H1 a (exo a (He.ga K c) none)) (fun v H2 => v = .non ∧ ∃ d fs, H2 a = some (exo a (He.ga K c) (some d)) ∧ H2 d = some (exd d fs) ∧ H1 d = none ∧ E (.ref (He.ga K c)) (some d) (upd (del H2 a) d (.xd fs))) (fun _ _ _ => False) := by
  have lv : vs.length = ks.length := by rw [← rs.len]; exact hl
  refine ⟨by omega, fun a ha0 => ⟨a, vs, by simp, lv, upd_same, fun d hd hda => ⟨rfl, d, (ks.zip vs).reverse, upd_same, by rw [upd_ne hda, upd_same], ?_, ?_⟩⟩⟩
  · rw [upd_ne hda] at hd
    exact hd
  · have hd1 : H1 d = none := by
      rw [upd_ne hda] at hd
      exact hd
    have e : upd (del (upd (upd (upd H1 a (exo a (He.ga K c) none)) d (exd d (ks.zip vs).reverse)) a (exo a (He.ga K c) (some d))) a) d (.xd (ks.zip vs).reverse) = upd H1 d (.xd (ks.zip vs).reverse) := by
      funext b
      by_cases hb : b = d
      · subst hb
        rw [upd_same, upd_same]
      · rw [upd_ne hb, upd_ne hb]
        by_cases hb2 : b = a
        · subst hb2
          rw [del_same, ha0]
        · rw [del_ne hb2, upd_ne hb2, upd_ne hb, upd_ne hb2]
    rw [e]
    refine P2 _ _ (upd G1 d (.xd (ks.zip vs).reverse)) _ as1 (Rch.new W1.le hd1) (W1.new hd1) ⟨rfl, vs.reverse, .inr ⟨d, rfl, ?_⟩, by simpa using hl.symm, (Reps.rev rs).up (List.prefix_refl _) (Rch.new (as := as1) W1.le hd1).up⟩
    rw [upd_same, zip_rev lv.symm]
/-- try: return f / except as n (slot i): g -/
def sTryN (cat : List (Str × Bool)) (i : Nat) (f : Se) (g : Ex → Ss) : Ss := fun ρ ws => match f ρ ws with
  | .ok d ws1 => .ok (ρ, .rt d) ws1
  | .ex e ws1 => (match cat.lookup e.c with
    | some true => if i < ρ.length then g e (ρ.set i none) ws1 else .bad
    | some false => .ex e ws1
    | none => .bad)
  | .bad => .bad
section
variable {K : PySem.W.Frag} {X : Cx} {E : XK} {e e1 : Expr} {es : List Expr} {x y c n : Str} {ks : List Str} {i : Nat} {cv : Value} {cat : List (Str × Bool)} {f : Se} {ga : Ex → Sa} {p pos pos' pos2 pos3 rp np cpos : Pos} {cj : Nat}
theorem as_tryN (hs : X.stack = X.env :: X.outer) (hf : X.env.frame = some X.env.locals) (hex : X.ex = []) (hN : X.N.Nodup) (hi : X.N[i]? = some n) (hln : X.env.kindOf n = some .local) (hc : Names X x cv)
    (hpa : ∀ hd : Option Value, PassesOwnAt (model X.prog X.w) (X.A.mark hd) X.A X.env X.xe) (tk : L2.Takes X fun cls d _ H => E cls d H)
    (hcat : ∀ c' b, cat.lookup c' = some b → PySem.W.exmOne X.K (.ref (He.ga X.K c')) cv = some b) (M : XMkH X y c ks) (hr : Room 3 X.A)
    (hbody : ∀ W : WX, ∃ te, ∀ (pn : List (Addr × Obj)) (xe : Value → Shared → Prop), L2N.Takes (X.tr pn xe) W → AX X.K (X.tr pn xe) W e te f)
    (hsu : ∃ ta : Addr → Value → Option Addr → TA, ∀ (a : Addr) (oe : Obj) (cls : Value) (d : Option Addr) (pn : List (Addr × Obj)) (xe : Value → Shared → Prop), Zc cls d oe → (∃ vs, oe.data = .fields vs) → AHa X.K (suiteA X a ((a, oe) :: pn) xe) a cls d i (e1 :: es) (ta a cls d) ga)
    (hg : Gl X y := by rfl) (hdb : (y == ("__debug__" : Str)) = false := by decide)
    (he : starEach (e1 :: es) X.env = (false, eval e1 X.env) :: starEach es X.env := by rfl) (hpl : (backTo pos (starEach es X.env)).any (·.1) = false := by rfl) :
    ∃ ts, AS X.K X E (.Try [.Return (some e) rp] [.ExceptHandler (some (.Name x np)) (some n) [.Raise (some (.Call (.Name y p) (e1 :: es) [] pos)) (some (.Constant .none cj cpos)) pos2] pos'] [] [] pos3) ts (sTryN cat i f fun ex => sRaiseN c ks (ga ex)) := by
  obtain ⟨ta, hsu⟩ := hsu
  obtain ⟨fI, fd, ps, T, iC, tI, F1, hb⟩ := M.ok
  let ts : Addr → Value → Option Addr → TS := fun a cls d _ σ H => tMkO (He.ga X.K c) (spX (He.ga X.K c) ks) [] (ta a cls d) σ H fun cls d H' => E cls d H'
  refine ⟨_, rfl, ps_try_asX (Wout := fun cls d _ H => E cls d H) (tb := fun W => tRet (Classical.choose (hbody W))) (ts := ts) hs hf hex hN hi hln hc hpa tk (fun W pn xe tkn _ => pss_one (ps_ret (Classical.choose_spec (hbody W) pn xe tkn).pe)) fun a oe cls d pn xe hz hdat tks hot => pss_one ?_, fun ρ ws G H as σ D W S P => ?_⟩
  · exact L2H.ps_raiseHN hot tks (L2H.pmk5_oexH (X := suiteA X a ((a, oe) :: pn) xe) T iC tI F1 (L2H.roomH_mark hr _) hot hb pass0 hg M.mg (hsu a oe cls d pn xe hz.zc hdat).pe hdb he hpl)
  · show Classical.choose (hbody _) σ H D.rt
    refine (Classical.choose_spec (hbody _) [] (fun _ _ => True) fun _ _ _ => trivial).ev ρ ws G H as σ _ W S ?_
    have P : PostS X.K E G H as (match f ρ ws with
      | .ok d ws1 => .ok (ρ, .rt d) ws1
      | .ex e ws1 => (match cat.lookup e.c with
        | some true => if i < ρ.length then sRaiseN c ks (ga e) (ρ.set i none) ws1 else .bad
        | some false => .ex e ws1
        | none => .bad)
      | .bad => .bad) D := P
    cases q : f ρ ws with
    | bad =>
      rw [q] at P
      exact False.elim P
    | ok v ws1 =>
      rw [q] at P
      exact P
    | ex ex ws1 =>
      rw [q] at P
      simp only at P
      intro cls dd G2 H2 as2 r2 W2 rx
      have rx0 := rx
      obtain ⟨e1, vs, e2, e3, e4⟩ := rx
      subst e1
      cases q2 : cat.lookup ex.c with
      | none =>
        rw [q2] at P
        exact False.elim P
      | some b =>
        rw [q2] at P
        cases b with
        | false =>
          simp only at P
          refine ⟨false, hcat _ _ q2, (fun z => nomatch z), fun _ => ?_⟩
          exact P _ _ _ _ _ r2 W2 rx0
        | true =>
          simp only at P
          split at P
          case isFalse => exact False.elim P
          rename_i hlt
          refine ⟨true, hcat _ _ q2, (fun _ a ha => ?_), fun z => nomatch z⟩
          have S2 : SRep X.K as2 G2 (ρ.set i none) (σ.set i (some (.ref a))) := (S.up r2.pre r2.up).forget
          have il : i < σ.length := by
            rw [← S.1]
            exact hlt
          refine (hsu a ⟨.ref (He.ga X.K ex.c), dd, .fields #[], #[]⟩ _ dd [] (fun _ _ => True) ⟨rfl, rfl⟩ ⟨_, rfl⟩).ev ex _ ws1 G2 H2 as2 _ _ (List.getElem?_set_self il) rx0 W2 S2 ?_
          have P := PostS.from P r2
          unfold sRaiseN at P
          refine nox_post (E := E) (PostS.bind P fun ds ws3 vs3 G3 H3 as3 r3 W3 rs3 P3 => ?_)
          split at P3
          · rename_i hl
            exact raise_end hl.1 hl.2 W3 rs3 P3
          · exact False.elim P3
end
end RL
set_option Elab.async false
set_option linter.all false
set_option maxRecDepth 100000
set_option maxHeartbeats 4000000
/-! RL38: x == [], x != [] of any list; tuples of instances by !=; a text in a text. -/
namespace RL
open PySem PySem.Spec PyProof.Rows L2
section
open PySem.SeqAt AutoSeq1 MeetsSeq MeetsSeq2 MeetsSeq3 SeqRoads2
variable {prog : Program} {w : World} {A : Around} {R : Result → Shared → Prop}
/-- lists of unlike lengths -/
theorem list_neL (l b : Addr) (xs ys : Array Value) (n n2 : Nat) (dd dd2 : Option Addr) (sl sl2 : Array (Option Value)) (hne : xs.size ≠ ys.size) {s : Shared} (done : R (.ok (.ret (.bool true))) s)
    (hl1 : s.heap.get? l = some { cls := .type "list", dict := dd, data := .seq xs n, slots := sl }) (hb1 : s.heap.get? b = some { cls := .type "list", dict := dd2, data := .seq ys n2, slots := sl2 }) :
    wpAny (model prog w) A.in1 (Builtin.«list.__ne__» ⟨[.ref l, .ref b], []⟩) (GQ.FinOf prog w A R) (fun er s' => R (.error er) s') s := by
  have f2 := AutoSeq1.sub_list_list
  have hs : (xs.size != ys.size) = true := by simpa using hne
  obtain ⟨hp, g, d, tk, os⟩ := s
  wp_walk using wpAny_loadPart' hl1, wpAny_loadPart' hb1
  all_goals first | exact done | skip
theorem list_eqL (l b : Addr) (xs ys : Array Value) (n n2 : Nat) (dd dd2 : Option Addr) (sl sl2 : Array (Option Value)) (hne : xs.size ≠ ys.size) {s : Shared} (done : R (.ok (.ret (.bool false))) s)
    (hl1 : s.heap.get? l = some { cls := .type "list", dict := dd, data := .seq xs n, slots := sl }) (hb1 : s.heap.get? b = some { cls := .type "list", dict := dd2, data := .seq ys n2, slots := sl2 }) :
    wpAny (model prog w) A.in1 (Builtin.«list.__eq__» ⟨[.ref l, .ref b], []⟩) (GQ.FinOf prog w A R) (fun er s' => R (.error er) s') s := by
  have f2 := AutoSeq1.sub_list_list
  have hs : (xs.size != ys.size) = true := by simpa using hne
  obtain ⟨hp, g, d, tk, os⟩ := s
  wp_walk using wpAny_loadPart' hl1, wpAny_loadPart' hb1
  all_goals first | exact done | skip
/-- != of two tuples whose items answer e, while Iv holds -/
theorem tuple_neM (l b : Addr) (xs ys : Array Value) (n n2 : Nat) (dd dd2 : Option Addr) (sl sl2 : Array (Option Value)) (e : Nat → Bool) (Iv : Shared → Prop)
    (turn : ∀ i (h1 : i < xs.size) (h2 : i < ys.size) s, Iv s → wpAny (model prog w) A.in1 (eqBool xs[i] ys[i]) (fun r s' => r = e i ∧ Iv s') (fun er s' => R (.error er) s') s)
    (done : ∀ s, Iv s → R (.ok (.ret (.bool (!((List.range (min xs.size ys.size)).all e && xs.size == ys.size))))) s) {s : Shared}
    (hl1 : s.heap.get? l = some { cls := .type "tuple", dict := dd, data := .seq xs n, slots := sl }) (hb1 : s.heap.get? b = some { cls := .type "tuple", dict := dd2, data := .seq ys n2, slots := sl2 }) (h : Iv s) :
    wpAny (model prog w) A.in1 (Builtin.«tuple.__ne__» ⟨[.ref l, .ref b], []⟩) (GQ.FinOf prog w A R) (fun er s' => R (.error er) s') s := by
  have f2 := AutoSeq1.sub_tuple_tuple
  have hZ : (xs.toList.zip ys.toList).length = min xs.size ys.size := by simp
  have h0 := h
  obtain ⟨hp, g, d, tk, os⟩ := s
  wp_walk using wpAny_loadPart' hl1, wpAny_loadPart' hb1, wpAny_forIn_list _ (fun rest bb s' => bb.1 = none ∧ Iv s' ∧ ∃ i, rest = (xs.toList.zip ys.toList).drop i ∧
    (((List.range (min xs.size ys.size)).drop i).all e && xs.size == ys.size) = ((List.range (min xs.size ys.size)).all e && xs.size == ys.size)) _
  case turn =>
    rintro ⟨y, x⟩ rest bb s' ⟨hb', hI, i, hz, hR⟩
    have hlt : i < (xs.toList.zip ys.toList).length := by
      rcases Nat.lt_or_ge i (xs.toList.zip ys.toList).length with q | q
      · exact q
      · rw [List.drop_of_length_le q] at hz
        cases hz
    have hm : i < min xs.size ys.size := hZ ▸ hlt
    have h1 : i < xs.size := by omega
    have h2 : i < ys.size := by omega
    rw [List.drop_eq_getElem_cons hlt] at hz
    injection hz with hyx hrest
    have hy : y = xs[i] := by have := congrArg Prod.fst hyx; simpa using this
    have hx : x = ys[i] := by have := congrArg Prod.snd hyx; simpa using this
    subst hy hx
    have hd : (List.range (min xs.size ys.size)).drop i = i :: (List.range (min xs.size ys.size)).drop (i + 1) := by simp [List.drop_eq_getElem_cons, hm]
    rw [hd, List.all_cons] at hR
    refine wpAny_bind (wpAny_mono (turn i h1 h2 s' hI) (fun r s2 q2 => ?_) fun _ _ x => x)
    obtain ⟨hr, q2⟩ := q2
    subst hr
    cases hy : e i with
    | true =>
      rw [hy] at hR
      wp_walk
      exact ⟨rfl, q2, i + 1, hrest, by simpa using hR⟩
    | false =>
      rw [hy] at hR
      wp_walk
      have := done s2 q2
      rw [← hR] at this
      simpa using this
  case fin =>
    rintro ⟨b1, b2⟩ s' ⟨hb', hI, i, hz, hR⟩
    simp only at hb'
    subst hb'
    have hge : min xs.size ys.size ≤ i := by
      rcases Nat.lt_or_ge i (xs.toList.zip ys.toList).length with q | q
      · rw [List.drop_eq_getElem_cons q] at hz
        cases hz
      · exact hZ ▸ q
    rw [List.drop_of_length_le (by simpa using hge)] at hR
    have := done s' hI
    rw [← hR] at this
    wp_walk
    simpa [Builtin.Tuple.tupleCompareSizes, bne] using this
  case h =>
    exact ⟨rfl, h0, 0, rfl, by simp⟩
end
def qNot' (q : Qs) : Qs := fun dx dy ws => (q dx dy ws).map fun b => !b
section
variable {X : Cx} {n : Nat} {q : Qs}
theorem rcM_tupNe (h : EqM X n q) : RcM X (n + 1) .NotEq (qNot' (qTup q)) := by
  intro A pins s σ H G as ws dx dy x y u v b sb I rx ry W r1 r2 e
  obtain ⟨b0, e0, eb⟩ := Option.map_eq_some_iff.mp e
  subst eb
  clear e
  have e := e0
  unfold qTup at e
  split at e
  · rename_i l m
    obtain ⟨k1, k2⟩ := qAll_some e
    simp only [Rep] at r1 r2
    obtain ⟨a, vs, e1, e2, e3⟩ := r1
    obtain ⟨a', us, f1, f2, f3⟩ := r2
    subst e1 f1
    cases rx
    cases ry
    obtain ⟨its, t1, t2, t3⟩ := I.tuple (.inl (.inl (W.le _ _ e2)))
    obtain ⟨its2, t1', t2', t3'⟩ := I.tuple (.inl (.inl (W.le _ _ f2)))
    have n1 : its.toArray.size = l.length := by rw [List.size_toArray, ← t1.length, e3.len]
    have n2 : its2.toArray.size = m.length := by rw [List.size_toArray, ← t1'.length, f3.len]
    obtain ⟨⟨cls, dd, data, sl⟩, ho, hc, nn, hd⟩ := id t2
    obtain ⟨⟨cls2, dd2, data2, sl2⟩, ho2, hc2, nn2, hd2⟩ := id t2'
    simp only at hc hd hc2 hd2
    subst hc hd hc2 hd2
    refine wpAny_richCompare_same_room (op := .NotEq) ⟨_, ho, rfl⟩ ⟨_, ho2, rfl⟩ F.slot_tuple_ne (GQ.call_here F.slot_tuple_ne ⟨_, ho, rfl⟩ F.entry_tuple_ne (F.args_tuple_ne_2 _ _) ?_) sb.room.units0
    refine tuple_neM (R := wants (fun v s' => v ≠ .notImplemented ∧ v = .bool (!b0) ∧ ∃ G' H' as', Inv X pins σ H' s' ∧ Rch G H as G' H' as' ∧ Wd X.K G' H' as' ws) X.xe) a a' its.toArray its2.toArray nn nn2 dd dd2 sl sl2 (fun i => (q (l.getD i .non) (m.getD i .non) ws).getD false)
      (fun s' => ∃ G' H' as', Inv X pins σ H' s' ∧ Rch G H as G' H' as' ∧ Wd X.K G' H' as' ws) (fun i h1 h2 s' hI => ?_) (fun s' hI => ?_) ho ho2 ⟨G, H, as, I, Rch.refl, W⟩
    · obtain ⟨G1, H1, as1, I1, c1, W1⟩ := hI
      have hi1 : i < l.length := by omega
      have hi2 : i < m.length := by omega
      obtain ⟨x1, x2, x3⟩ := e3.at hi1
      obtain ⟨y1, y2, y3⟩ := f3.at hi2
      obtain ⟨w1, w2, w3⟩ := t1.get x2
      obtain ⟨z1, z2, z3⟩ := t1'.get y2
      have q1 : its.toArray[i] = w1 := by
        have := List.getElem?_eq_some_iff.mp w2
        simpa using this.2
      have q2 : its2.toArray[i] = z1 := by
        have := List.getElem?_eq_some_iff.mp z2
        simpa using this.2
      rw [q1, q2]
      have hq := k1 i l[i] m[i] (List.getElem?_eq_getElem hi1) (List.getElem?_eq_getElem hi2)
      have hl : l.getD i .non = l[i] := by simp [List.getD, hi1]
      have hm : m.getD i .non = m[i] := by simp [List.getD, hi2]
      refine wpAny_mono (h A.in1 pins s' σ H1 G1 as1 ws _ _ _ _ _ _ _ sb.in1 I1 w3 z3 W1 (x3.up c1.pre c1.up) (y3.up c1.pre c1.up) hq) (fun r s2 z => ?_) fun _ _ z => z
      obtain ⟨z1, G2, H2, as2, I2, c2, W2⟩ := z
      exact ⟨by rw [z1, hl, hm], G2, H2, as2, I2, c1.trans c2, W2⟩
    · refine ⟨(fun z => nomatch z), ?_, hI⟩
      rw [k2, n1, n2]
  · cases e
end
/-! ### x == [], x != [] -/
def qNil : Qs := fun dx dy ws => match lstOf ws dx, lstOf ws dy with
  | some (_ :: _), some [] => some false
  | _, _ => none
section
variable {X : Cx}
theorem rcM_nil : RcM X 0 .Eq qNil := by
  intro A pins s σ H G as ws dx dy x y u v b sb I rx ry W r1 r2 e
  unfold qNil at e
  split at e
  · rename_i d0 ds h1 h2
    cases e
    obtain ⟨a, vs, e1, e2, e3⟩ := lst_rep W h1 r1
    obtain ⟨a', us, f1, f2, f3⟩ := lst_rep W h2 r2
    subst e1 f1
    cases rx
    cases ry
    obtain ⟨its, t1, t2, t3⟩ := I.list (.inl (.inl e2))
    obtain ⟨its2, t1', t2', t3'⟩ := I.list (.inl (.inl f2))
    have n1 : its.toArray.size = ds.length + 1 := by rw [List.size_toArray, ← t1.length, ← e3.len] <;> rfl
    have n2 : its2.toArray.size = 0 := by rw [List.size_toArray, ← t1'.length, ← f3.len] <;> rfl
    obtain ⟨⟨cls, dd, data, sl⟩, ho, hc, nn, hd⟩ := id t2.isList
    obtain ⟨⟨cls2, dd2, data2, sl2⟩, ho2, hc2, nn2, hd2⟩ := id t2'.isList
    simp only at hc hd hc2 hd2
    subst hc hd hc2 hd2
    refine wpAny_richCompare_same_room (op := .Eq) ⟨_, ho, rfl⟩ ⟨_, ho2, rfl⟩ F.slot_list_eq (GQ.call_here F.slot_list_eq ⟨_, ho, rfl⟩ F.entry_list_eq (F.args_list_eq_2 _ _) ?_) sb.room.units0
    exact list_eqL (R := wants (fun v s' => v ≠ .notImplemented ∧ v = .bool false ∧ ∃ G' H' as', Inv X pins σ H' s' ∧ Rch G H as G' H' as' ∧ Wd X.K G' H' as' ws) X.xe) a a' its.toArray its2.toArray nn nn2 dd dd2 sl sl2 (by omega) ⟨(fun z => nomatch z), rfl, G, H, as, I, Rch.refl, W⟩ ho ho2
  · cases e
theorem rcM_nilNe : RcM X 0 .NotEq (qNot' qNil) := by
  intro A pins s σ H G as ws dx dy x y u v b sb I rx ry W r1 r2 e
  obtain ⟨b0, e0, eb⟩ := Option.map_eq_some_iff.mp e
  subst eb
  clear e
  have e := e0
  unfold qNil at e
  split at e
  · rename_i d0 ds h1 h2
    cases e
    obtain ⟨a, vs, e1, e2, e3⟩ := lst_rep W h1 r1
    obtain ⟨a', us, f1, f2, f3⟩ := lst_rep W h2 r2
    subst e1 f1
    cases rx
    cases ry
    obtain ⟨its, t1, t2, t3⟩ := I.list (.inl (.inl e2))
    obtain ⟨its2, t1', t2', t3'⟩ := I.list (.inl (.inl f2))
    have n1 : its.toArray.size = ds.length + 1 := by rw [List.size_toArray, ← t1.length, ← e3.len] <;> rfl
    have n2 : its2.toArray.size = 0 := by rw [List.size_toArray, ← t1'.length, ← f3.len] <;> rfl
    obtain ⟨⟨cls, dd, data, sl⟩, ho, hc, nn, hd⟩ := id t2.isList
    obtain ⟨⟨cls2, dd2, data2, sl2⟩, ho2, hc2, nn2, hd2⟩ := id t2'.isList
    simp only at hc hd hc2 hd2
    subst hc hd hc2 hd2
    refine wpAny_richCompare_same_room (op := .NotEq) ⟨_, ho, rfl⟩ ⟨_, ho2, rfl⟩ F.slot_list_ne (GQ.call_here F.slot_list_ne ⟨_, ho, rfl⟩ F.entry_list_ne (F.args_list_ne_2 _ _) ?_) sb.room.units0
    exact list_neL (R := wants (fun v s' => v ≠ .notImplemented ∧ v = .bool (!false) ∧ ∃ G' H' as', Inv X pins σ H' s' ∧ Rch G H as G' H' as' ∧ Wd X.K G' H' as' ws) X.xe) a a' its.toArray its2.toArray nn nn2 dd dd2 sl sl2 (by omega) ⟨(fun z => nomatch z), rfl, G, H, as, I, Rch.refl, W⟩ ho ho2
  · cases e
/-- by the lengths alone -/
def fEqNil (ng : Bool) : List Ce → D → D → Option D := fun ws x y => match lstOf ws x, lstOf ws y with
  | some l, some [] => some (.bl (if ng then !l.isEmpty else l.isEmpty))
  | _, _ => none
theorem op_eqNil (hr : Room 0 X.A) (hu : X.A.units + 64 < cLine) (ho : ∀ a b, compareOp .Eq a b = richCompare .Eq a b) : OpR X (compareOp .Eq) (fun x y H Q => rQ X.K qNil x y H Q ∨ rEqD X.K x y H Q) := by
  intro pins s σ H x y v u Q I rx ry h
  rcases h with h | h
  · exact op_q rcM_nil hr ho pins s σ H x y v u Q I rx ry h
  · exact op_eqD hu pins s σ H x y v u Q I rx ry h
theorem op_neNil (hr : Room 0 X.A) (hu : X.A.units + 64 < cLine) (ho : ∀ a b, compareOp .NotEq a b = richCompare .NotEq a b) : OpR X (compareOp .NotEq) (fun x y H Q => rQ X.K (qNot' qNil) x y H Q ∨ rNeD X.K x y H Q) := by
  intro pins s σ H x y v u Q I rx ry h
  rcases h with h | h
  · exact op_q rcM_nilNe hr ho pins s σ H x y v u Q I rx ry h
  · exact op_neD hu pins s σ H x y v u Q I rx ry h
theorem toPy_lstNil {ws : List Ce} {d : D} (h : lstOf ws d = some []) : toPy ws d = some (.list []) := by
  cases d with
  | lst l => cases h; rfl
  | cell n =>
    simp only [lstOf] at h
    simp only [toPy]
    cases q : ws[n]? with
    | none => rw [q] at h; cases h
    | some c =>
      rw [q] at h
      cases c with
      | lst l => cases h; rfl
      | _ => cases h
  | _ => cases h
theorem od_eqNil {K : PySem.W.Frag} : OpD K (fun x y H Q => rQ K qNil x y H Q ∨ rEqD K x y H Q) (fEqNil false) := fun ws G H as x y d e z Q W rx ry ef k => by
  unfold fEqNil at ef
  split at ef
  · rename_i l h1 h2
    cases ef
    cases l with
    | nil => exact .inr (od_eqD ws G H as x y d e _ Q W rx ry (by simp only [fEqD, toPy_lstNil h1, toPy_lstNil h2]; rfl) k)
    | cons a l => exact .inl (od_q ws G H as x y d e _ Q W rx ry (by simp [fQ, qNil, h1, h2]) k)
  · cases ef
theorem od_neNil {K : PySem.W.Frag} : OpD K (fun x y H Q => rQ K (qNot' qNil) x y H Q ∨ rNeD K x y H Q) (fEqNil true) := fun ws G H as x y d e z Q W rx ry ef k => by
  unfold fEqNil at ef
  split at ef
  · rename_i l h1 h2
    cases ef
    cases l with
    | nil => exact .inr (od_neD ws G H as x y d e _ Q W rx ry (by simp only [fNeD, toPy_lstNil h1, toPy_lstNil h2]; rfl) k)
    | cons a l => exact .inl (od_q ws G H as x y d e _ Q W rx ry (by simp [fQ, qNot', qNil, h1, h2]) k)
  · cases ef
end
/-! ### a text in a text -/
def fInStr (ng : Bool) : List Ce → D → D → Option D := fun _ x y => match x, y with
  | .str i, .str j => some (.bl (if ng then !(!(Builtin.Str.occurrences j i 0 j.length 1).isEmpty) else !(Builtin.Str.occurrences j i 0 j.length 1).isEmpty))
  | _, _ => none
theorem od_inStr {K : PySem.W.Frag} : OpD K (fun x y H Q => ∃ i j, x = .str i ∧ y = .str j ∧ Q (.bl (!(Builtin.Str.occurrences j i 0 j.length 1).isEmpty)) H) (fInStr false) := OpD.pure fun ws G H as x y d e z Q W rx ry ef k => by
  unfold fInStr at ef
  split at ef
  · cases ef
    simp only [Rep] at rx ry
    exact ⟨_, _, rx, ry, k _ (by simp [Rep])⟩
  · cases ef
theorem od_notInStr {K : PySem.W.Frag} : OpD K (fun x y H Q => ∃ i j, x = .str i ∧ y = .str j ∧ Q (.bl (!(!(Builtin.Str.occurrences j i 0 j.length 1).isEmpty))) H) (fInStr true) := OpD.pure fun ws G H as x y d e z Q W rx ry ef k => by
  unfold fInStr at ef
  split at ef
  · cases ef
    simp only [Rep] at rx ry
    exact ⟨_, _, rx, ry, k _ (by simp [Rep])⟩
  · cases ef
end RL
set_option Elab.async false
set_option linter.all false
set_option maxRecDepth 100000
set_option maxHeartbeats 4000000
/-! RL39: x or y by truth; tables for tuples of classes. -/
namespace RL
open PySem PySem.Spec PyProof.Rows L2
def tabTB (K : PySem.W.Frag) (tab : List (Tn × Bool)) (us : List Value) : Bool := tab.all fun p => decide (PySem.W.kitAny K (tnV K p.1) us = some p.2)
theorem tabT_of {K : PySem.W.Frag} {tab : List (Tn × Bool)} {us : List Value} (h : tabTB K tab us = true) (hc : ∀ p ∈ tab, ∀ n, p.1 = .c n → IsC K n) : TabOkT K tab us := fun t b e => by
  have q := lookup_in e
  exact ⟨of_decide_eq_true (List.all_eq_true.mp h (t, b) q), fun n z => hc (t, b) q n z⟩
/-- the truth of a value -/
def truD (ws : List Ce) : D → Option Bool
  | .non => some false
  | .bl b => some b
  | .int i => some (i != 0)
  | .str s => if s.length ≤ 100000 then some ((s.length : Int) != 0) else none
  | d => (seqOf ws d).map fun l => !l.isEmpty
theorem truD_seq {K : PySem.W.Frag} {G H : Hp} {as : List Addr} {ws : List Ce} (W : Wd K G H as ws) {d : D} {v : V} {k : Bool} (h : (seqOf ws d).map (fun l => !l.isEmpty) = some k) (r : Rep K as G d v) : TruV K v H k := by
  obtain ⟨l, h1, h2⟩ := Option.map_eq_some_iff.mp h
  obtain ⟨a, xs, e1, e2, e3⟩ := seq_rep W h1 r
  subst e1
  have e : (!l.isEmpty) = !xs.isEmpty := by
    cases l with
    | nil =>
      rw [e3.unnil]
      rfl
    | cons a l =>
      obtain ⟨v, r, e, _⟩ := e3.uncons
      rw [e] <;> rfl
  rcases e2 with e2 | e2
  · exact .inl ⟨xs, e2, by rw [← h2, e]⟩
  · exact .inr (.inl ⟨xs, e2, by rw [← h2, e]⟩)
theorem truD_ok {K : PySem.W.Frag} {G H : Hp} {as : List Addr} {ws : List Ce} (W : Wd K G H as ws) {d : D} {v : V} {k : Bool} (h : truD ws d = some k) (r : Rep K as G d v) : TruV K v H k := by
  cases d with
  | non =>
    simp only [Rep] at r
    subst r
    cases h
    rfl
  | bl b =>
    simp only [Rep] at r
    subst r
    cases h
    rfl
  | int i =>
    simp only [Rep] at r
    subst r
    cases h
    rfl
  | str s =>
    simp only [Rep] at r
    subst r
    simp only [truD] at h
    split at h
    · rename_i hl
      cases h
      exact ⟨small5 hl, rfl⟩
    · cases h
  | tup l => exact truD_seq W (d := .tup l) (by simpa [truD] using h) r
  | lst l => exact truD_seq W (d := .lst l) (by simpa [truD] using h) r
  | cell n => exact truD_seq W (d := .cell n) (by simpa [truD] using h) r
  | ins c ks l => cases h
  | cls c => cases h
  | fz l => cases h
  | exc c ks l => cases h
  | dct ks l => cases h
  | dcT ks l => cases h
def sOrV (a b : Se) : Se := fun ρ ws => (a ρ ws).bind fun x ws1 => match truD ws1 x with
  | some true => .ok x ws1
  | some false => b ρ ws1
  | none => .bad
def sAndV (a b : Se) : Se := fun ρ ws => (a ρ ws).bind fun x ws1 => match truD ws1 x with
  | some true => b ρ ws1
  | some false => .ok x ws1
  | none => .bad
section
variable {K : PySem.W.Frag} {X : Cx} {E : XK} {a b : Expr} {rest : List Expr} {ta tb : TE} {sa sb : Se} {pos : Pos}
theorem ae_orT (ha : AE K X E a ta sa) (hb : AE K X E (.BoolOp .Or (b :: rest) pos) tb sb) : AE K X E (.BoolOp .Or (a :: b :: rest) pos) (tOrT K ta tb) (sOrV sa sb) := by
  have e0 := ha.hK
  subst e0
  refine ⟨rfl, pe_orT ha.pe hb.pe, fun ρ ws G H as σ Q W S P => ha.ev ρ ws G H as σ _ W S (Post.bind P fun x ws1 v G1 H1 as1 r1 W1 rx P1 => ?_)⟩
  split at P1
  · rename_i h
    refine ⟨true, truD_ok W1 h rx, ?_⟩
    rw [if_pos rfl]
    exact Post.done P1 W1 rx
  · rename_i h
    refine ⟨false, truD_ok W1 h rx, ?_⟩
    rw [if_neg (by decide)]
    exact hb.ev ρ ws1 G1 H1 as1 σ _ W1 (S.up r1.pre r1.up) P1
  · exact False.elim P1
theorem ae_andT (ha : AE K X E a ta sa) (hb : AE K X E (.BoolOp .And (b :: rest) pos) tb sb) : AE K X E (.BoolOp .And (a :: b :: rest) pos) (tAndT K ta tb) (sAndV sa sb) := by
  have e0 := ha.hK
  subst e0
  refine ⟨rfl, pe_andT ha.pe hb.pe, fun ρ ws G H as σ Q W S P => ha.ev ρ ws G H as σ _ W S (Post.bind P fun x ws1 v G1 H1 as1 r1 W1 rx P1 => ?_)⟩
  split at P1
  · rename_i h
    refine ⟨true, truD_ok W1 h rx, ?_⟩
    rw [if_pos rfl]
    exact hb.ev ρ ws1 G1 H1 as1 σ _ W1 (S.up r1.pre r1.up) P1
  · rename_i h
    refine ⟨false, truD_ok W1 h rx, ?_⟩
    rw [if_neg (by decide)]
    exact Post.done P1 W1 rx
  · exact False.elim P1
end
/-! ### what is a list or a tuple, walked -/
def iSeq (K : PySem.W.Frag) (tl : TE) : TI := fun σ H R => tl σ H fun x H1 => ∃ a, x = .ref a ∧ (((∃ xs, SqL K H1 a xs) ∧ R (Itl K a) H1) ∨ ((∃ xs, SqT K H1 a xs) ∧ R (Itt K a) H1))
theorem pi_seq {X : Cx} {tg l : Expr} {tl : TE} (hl : PE X l tl) : PI X tg l (iSeq X.K tl) := by
  refine ⟨fun pins s σ H R I h => ?_⟩
  refine thn (hl.run pins s σ H _ I h) fun v s1 ⟨x, H1, I1, r1, q1⟩ => ?_
  obtain ⟨a, e, q⟩ := q1
  subst e
  cases r1
  rcases q with ⟨⟨xs, hq⟩, q⟩ | ⟨⟨xs, hq⟩, q⟩
  · obtain ⟨its, rv, p, hz⟩ := I1.list hq
    refine wpAny_pyIter_list p.isList ?_
    refine ⟨s1.heap.objs.size, [s1.heap.objs.size], _, _, H1, rfl, I1.kept (t' := s1.toks) fun b o e => Heap.get?_push_of_some _ e, turn_list a _, ⟨_, Heap.get?_push_size _ rfl, rfl, rfl⟩, fun b hb => ?_, q⟩
    have e : b = s1.heap.objs.size := by simpa using hb
    subst e
    exact I1.fpOk (Nat.le_refl _) (I1.hok.fresh (Nat.le_refl _))
  · obtain ⟨its, rv, p, hz⟩ := I1.tuple hq
    refine wpAny_pyIter_tuple (show s1.heap.IsTuple a its.toArray from p) ?_
    refine ⟨s1.heap.objs.size, [s1.heap.objs.size], _, _, H1, rfl, I1.kept (t' := s1.toks) fun b o e => Heap.get?_push_of_some _ e, turn_tuple a _, ⟨_, Heap.get?_push_size _ rfl, rfl, rfl⟩, fun b hb => ?_, q⟩
    have e : b = s1.heap.objs.size := by simpa using hb
    subst e
    exact I1.fpOk (Nat.le_refl _) (I1.hok.fresh (Nat.le_refl _))
def itOf2 (ws : List Ce) (x : D) : Option (List D × Option Nat) := match x with
  | .tup l => some (l, none)
  | x => itOf ws x
def sItQ (a : Se) : Si := fun ρ ws => (a ρ ws).bind fun x ws1 => R.ofO (itOf2 ws1 x) ws1
theorem ai_seq {K : PySem.W.Frag} {X : Cx} {E : XK} {tg e : Expr} {te : TE} {se : Se} (h : AE K X E e te se) : AI K X E tg e (iSeq K te) (sItQ se) := by
  have e0 := h.hK
  subst e0
  refine ⟨rfl, pi_seq h.pe, fun ρ ws G H as σ Q W S P => h.ev ρ ws G H as σ _ W S (Post.bind P fun x ws1 v G1 H1 as1 r1 W1 rx P1 => ?_)⟩
  obtain ⟨z, hz, P2⟩ := Post.ofO P1
  obtain ⟨ds, src⟩ := z
  cases x with
  | tup l =>
    cases hz
    simp only [Rep] at rx
    obtain ⟨a, vs, e1, e2, e3⟩ := rx
    exact ⟨a, e1, .inr ⟨⟨vs, .inl (.inl (W1.le _ _ e2))⟩, Post.done P2 W1 (wk_tup e2 e3)⟩⟩
  | lst l =>
    obtain ⟨a, e1, ⟨vs, e2⟩, e3⟩ := it_at W1 (show itOf ws1 (.lst l) = _ from hz) rx
    exact ⟨a, e1, .inl ⟨⟨vs, .inl (.inl e2)⟩, Post.done P2 W1 (wk_list e3)⟩⟩
  | cell n =>
    obtain ⟨a, e1, ⟨vs, e2⟩, e3⟩ := it_at W1 (show itOf ws1 (.cell n) = _ from hz) rx
    exact ⟨a, e1, .inl ⟨⟨vs, .inl (.inl e2)⟩, Post.done P2 W1 (wk_list e3)⟩⟩
  | _ => cases hz
end RL
set_option Elab.async false
set_option linter.all false
set_option maxRecDepth 100000
set_option maxHeartbeats 4000000
/-! RL40: texts parted at a sign, numbers written and read. -/
namespace RL
open PySem L2 TL
abbrev Sx (l : List Nat) : Str := ⟨l.toArray⟩
theorem tl_Sx (l : List Nat) : tl (Sx l) = l := rfl
theorem Sx_tl (x : Str) : Sx (tl x) = x := mk_tl x
theorem Sx_len (l : List Nat) : (Sx l).length = l.length := by simp [len_tl]
/-- parted at the sign c -/
def cutC (c : Nat) : List Nat → List (List Nat)
  | [] => [[]]
  | x :: r => if x = c then [] :: cutC c r else match cutC c r with
    | [] => [[x]]
    | p :: ps => (x :: p) :: ps
theorem cutC_ne (c : Nat) : ∀ l, cutC c l ≠ []
  | [] => by simp [cutC]
  | x :: r => by
    simp only [cutC]
    split
    · simp
    · split <;> simp
theorem cutC_hit (c : Nat) (r : List Nat) : cutC c (c :: r) = [] :: cutC c r := by simp [cutC]
theorem cutC_miss {c x : Nat} (h : x ≠ c) {r p : List Nat} {ps : List (List Nat)} (e : cutC c r = p :: ps) : cutC c (x :: r) = (x :: p) :: ps := by simp [cutC, h, e]
theorem spl_cut (c : Nat) : ∀ (l acc p : List Nat) (ps : List (List Nat)), cutC c l = p :: ps → spl [c] 0 acc l = (acc ++ p) :: ps
  | [], acc, p, ps, h => by
    simp [cutC] at h
    obtain ⟨rfl, rfl⟩ := h
    rw [spl_nil]
    simp
  | x :: r, acc, p, ps, h => by
    by_cases hx : x = c
    · subst hx
      rw [cutC_hit] at h
      injection h with h1 h2
      subst h1
      rw [spl_hit (by simp [pre])]
      obtain ⟨q, qs, e⟩ := List.exists_cons_of_ne_nil (cutC_ne x r)
      rw [show [x].length - 1 = 0 from rfl, spl_cut x r [] q qs e, ← h2, e]
      simp
    · obtain ⟨q, qs, e⟩ := List.exists_cons_of_ne_nil (cutC_ne c r)
      rw [cutC_miss hx e] at h
      injection h with h1 h2
      subst h1 h2
      have hp : pre [c] (x :: r) = false := pre_of_head [] r hx
      rw [spl_miss hp, spl_cut c r (acc ++ [x]) q qs e]
      simp
theorem split_cut {c : Nat} (hc : c < 256) (x : Str) : Txt.split x (Sx [c]) = (cutC c (tl x)).map Sx := by
  apply map_tl_inj
  have hk : ¬ Builtin.Str.strKind x < Builtin.Str.strKind (Sx [c]) := kind_ok (by simp [hc])
  rw [split_spl x (Sx [c]) (by simp) hk]
  obtain ⟨p, ps, e⟩ := List.exists_cons_of_ne_nil (cutC_ne c (tl x))
  rw [show tl (Sx [c]) = [c] from rfl, spl_cut c _ [] p ps e, e, List.map_map]
  have e2 : (tl ∘ Sx) = id := funext fun _ => rfl
  rw [e2, List.map_id]
  simp
theorem joinL_cons (S a b : List Nat) (r : List (List Nat)) : joinL S (a :: b :: r) = a ++ S ++ joinL S (b :: r) := by simp [joinL]
theorem join_cut (c : Nat) : ∀ l, joinL [c] (cutC c l) = l
  | [] => by simp [cutC, joinL]
  | x :: r => by
    obtain ⟨q, qs, e⟩ := List.exists_cons_of_ne_nil (cutC_ne c r)
    have z := join_cut c r
    rw [e] at z
    by_cases hx : x = c
    · subst hx
      rw [cutC_hit, e]
      rw [joinL_cons, z]
      rfl
    · rw [cutC_miss hx e]
      cases qs with
      | nil =>
        have z : q = r := z
        show x :: q = _
        rw [z]
      | cons b s =>
        rw [joinL_cons] at z ⊢
        rw [← z]
        simp
theorem cut_free (c : Nat) : ∀ l, ∀ p ∈ cutC c l, c ∉ p
  | [], p, h => by
    simp [cutC] at h
    simp [h]
  | x :: r, p, h => by
    obtain ⟨q, qs, e⟩ := List.exists_cons_of_ne_nil (cutC_ne c r)
    have ih := cut_free c r
    rw [e] at ih
    by_cases hx : x = c
    · subst hx
      rw [cutC_hit, e] at h
      rcases List.mem_cons.mp h with rfl | h
      · simp
      · exact ih p h
    · rw [cutC_miss hx e] at h
      rcases List.mem_cons.mp h with rfl | h
      · intro hm
        rcases List.mem_cons.mp hm with z | z
        · exact hx z.symm
        · exact ih q (by simp) z
      · exact ih p (by simp [h])
theorem cut_none {c : Nat} : ∀ {l : List Nat}, c ∉ l → cutC c l = [l]
  | [], _ => rfl
  | x :: r, h => by
    have h1 : x ≠ c := fun e => h (by simp [e])
    rw [cutC_miss h1 (cut_none fun z => h (List.mem_cons_of_mem _ z))]
theorem cut_apC {c : Nat} : ∀ {p : List Nat} (r : List Nat), c ∉ p → cutC c (p ++ c :: r) = p :: cutC c r
  | [], r, _ => cutC_hit c r
  | x :: p, r, h => by
    have h1 : x ≠ c := fun e => h (by simp [e])
    rw [List.cons_append, cutC_miss h1 (cut_apC r fun z => h (List.mem_cons_of_mem _ z))]
theorem cut_join {c : Nat} : ∀ {ps : List (List Nat)}, ps ≠ [] → (∀ p ∈ ps, c ∉ p) → cutC c (joinL [c] ps) = ps
  | [], h, _ => absurd rfl h
  | [a], _, h => cut_none (h a (by simp))
  | a :: b :: r, _, h => by
    rw [joinL_cons, List.append_assoc, List.singleton_append, cut_apC _ (h a (by simp)), cut_join (by simp) fun p hp => h p (List.mem_cons_of_mem _ hp)]
/-- the pieces of a text -/
theorem cut_sum (c : Nat) : ∀ l, ((cutC c l).map List.length).sum + ((cutC c l).length - 1) = l.length
  | [] => by simp [cutC]
  | x :: r => by
    obtain ⟨q, qs, e⟩ := List.exists_cons_of_ne_nil (cutC_ne c r)
    have z := cut_sum c r
    rw [e] at z
    by_cases hx : x = c
    · subst hx
      rw [cutC_hit, e]
      simp at z ⊢
      omega
    · rw [cutC_miss hx e]
      simp at z ⊢
      omega
theorem cut_piece {c : Nat} {l p : List Nat} (h : p ∈ cutC c l) : p.length ≤ l.length := by
  have z := cut_sum c l
  have key : ∀ (ps : List (List Nat)), p ∈ ps → p.length ≤ (ps.map List.length).sum := by
    intro ps
    induction ps with
    | nil => intro hm; cases hm
    | cons q qs ih =>
      intro hm
      rw [List.map_cons, List.sum_cons]
      rcases List.mem_cons.mp hm with rfl | hm
      · omega
      · have := ih hm
        omega
  have := key _ h
  omega
theorem cut_len (c : Nat) (l : List Nat) : (cutC c l).length ≤ l.length + 1 := by
  have z := cut_sum c l
  omega
theorem joinC (c : Nat) (ps : List (List Nat)) : Txt.join (Sx [c]) (ps.map Sx) = Sx (joinL [c] ps) := by
  rw [join_eq]
  apply ext_tl
  rw [tl_join, List.map_map]
  simp [Function.comp_def]
/-! ### numbers -/
/-- a word that writes a number from 0 on -/
def isNum (w : List Nat) : Prop := w ≠ [] ∧ NumText.AllDigits w ∧ (w.head? = some 48 → w.length = 1)
instance (w : List Nat) : Decidable (NumText.AllDigits w) := inferInstanceAs (Decidable (∀ c ∈ w, 48 ≤ c ∧ c ≤ 57))
instance (w : List Nat) : Decidable (isNum w) := inferInstanceAs (Decidable (_ ∧ _ ∧ _))
theorem val_snoc (l : List Nat) (c : Nat) : NumText.digitsVal (l ++ [c]) = NumText.digitsVal l * 10 + (c - 48) := by simp [NumText.digitsVal]
theorem val_pos : ∀ (l : List Nat) (a : Nat), 0 < a → 0 < l.foldl (fun acc c => acc * 10 + (c - 48)) a
  | [], a, h => h
  | c :: l, a, h => val_pos l (a * 10 + (c - 48)) (by omega)
theorem num_back : ∀ (n : Nat) (w : List Nat), w.length = n → isNum w → numL (NumText.digitsVal w) = w
  | 0, w, hl, h => absurd (List.length_eq_zero_iff.mp hl) h.1
  | 1, w, hl, h => by
    obtain ⟨c, rfl⟩ := List.length_eq_one_iff.mp hl
    have hc := h.2.1 c (by simp)
    have e : NumText.digitsVal [c] = c - 48 := by simp [NumText.digitsVal]
    rw [e, numL_lt (by omega)]
    simp
    omega
  | n + 2, w, hl, h => by
    obtain ⟨a, w', rfl⟩ := List.exists_cons_of_ne_nil h.1
    have ha := h.2.1 a (by simp)
    have ha0 : a ≠ 48 := fun e => by
      have := h.2.2 (by simp [e])
      omega
    have hw : w' ≠ [] := fun e => by
      subst e
      simp at hl
    obtain ⟨v, c, e⟩ : ∃ v c, w' = v ++ [c] := ⟨w'.dropLast, w'.getLast hw, (List.dropLast_concat_getLast hw).symm⟩
    subst e
    have hc := h.2.1 c (by simp)
    have hv : isNum (a :: v) := ⟨by simp, fun x hx => h.2.1 x (by
      rcases List.mem_cons.mp hx with rfl | hx
      · simp
      · simp [hx]), fun z => by
      simp at z
      exact absurd z ha0⟩
    have ih := num_back (n + 1) (a :: v) (by simp at hl ⊢; omega) hv
    have p : 0 < NumText.digitsVal (a :: v) := by
      simp only [NumText.digitsVal, List.foldl_cons]
      exact val_pos v _ (by omega)
    rw [← List.cons_append, val_snoc, numL_step (by omega)]
    have e1 : (NumText.digitsVal (a :: v) * 10 + (c - 48)) / 10 = NumText.digitsVal (a :: v) := by omega
    have e2 : (NumText.digitsVal (a :: v) * 10 + (c - 48)) % 10 = c - 48 := by omega
    rw [e1, e2, ih]
    have e3 : 48 + (c - 48) = c := by omega
    rw [e3]
theorem head_snoc {l : List Nat} {c x : Nat} (h : l ≠ []) (e : (l ++ [c]).head? = some x) : l.head? = some x := by
  cases l with
  | nil => exact absurd rfl h
  | cons a l => simpa using e
theorem numL_isNum : ∀ n : Nat, isNum (numL n) := fun n => by
  refine ⟨numL_ne n, numL_digits n, ?_⟩
  have key : ∀ k n, n ≤ k → (numL n).head? = some 48 → n = 0 := by
    intro k
    induction k with
    | zero => intro n hn _; omega
    | succ k ih =>
      intro n hn e
      by_cases h : n < 10
      · rw [numL_lt h] at e
        simp at e
        exact e
      · rw [numL_step (by omega)] at e
        have := ih (n / 10) (by omega) (head_snoc (numL_ne _) e)
        omega
  intro e
  rw [key n n (Nat.le_refl _) e]
  rfl
theorem num_of {w : List Nat} (h : isNum w) : numL (NumText.digitsVal w) = w := num_back _ w rfl h
theorem text_of {w : List Nat} (h : isNum w) : toString ((NumText.digitsVal w : Nat) : Int) = (toString ((NumText.digitsVal w : Nat) : Int) : String) := rfl
def numS (n : Nat) : Str := Sx (numL n)
theorem str_numS (n : Nat) : (Str.ofString (toString ((n : Nat) : Int))) = numS n := ext_tl (tl_num n)
theorem int_of {w : List Nat} (h : isNum w) (hl : w.length ≤ 640) : gIntS ws (.str (Sx w)) = some (.int (NumText.digitsVal w : Nat)) := by
  have e : intText? (Sx w) = some ((NumText.digitsVal w : Nat) : Int) := intText_digits (x := Sx w) h.2.1 h.1 (by rw [Sx_len]; omega)
  simp only [gIntS, Sx_len, hl, if_true, e, Option.map_some]
theorem log_small {n : Nat} (h : n < 10 ^ 100) : n.log2 < 1920 := by
  by_cases h0 : n = 0
  · subst h0
    decide
  · rw [Nat.log2_lt h0]
    exact Nat.lt_trans h (by decide +kernel)
theorem str_of {n : Nat} (h : n < 10 ^ 100) {ws : List Ce} : gStr ws (.int (n : Nat)) = some (.str (numS n)) := by
  have : ((n : Nat) : Int).natAbs.log2 < 1920 := log_small h
  simp only [gStr, this, if_true]
  rw [← str_numS]
theorem val_lt : ∀ (l : List Nat) (a : Nat), NumText.AllDigits l → l.foldl (fun acc c => acc * 10 + (c - 48)) a < (a + 1) * 10 ^ l.length
  | [], a, _ => by simp
  | c :: l, a, h => by
    have hc := h c (by simp)
    have z := val_lt l (a * 10 + (c - 48)) fun x hx => h x (List.mem_cons_of_mem _ hx)
    simp only [List.foldl_cons, List.length_cons]
    refine Nat.lt_of_lt_of_le z ?_
    rw [Nat.pow_succ, Nat.mul_comm (10 ^ l.length) 10, ← Nat.mul_assoc]
    exact Nat.mul_le_mul_right _ (by omega)
theorem val_small {w : List Nat} (h : NumText.AllDigits w) (hl : w.length ≤ 100) : NumText.digitsVal w < 10 ^ 100 := by
  have z := val_lt w 0 h
  simp only [Nat.zero_add, Nat.one_mul] at z
  exact Nat.lt_of_lt_of_le z (Nat.pow_le_pow_right (by decide) hl)
/-- a sign among signs -/
theorem in_sign (ng : Bool) (c : Nat) (z : Str) {ws : List Ce} : fInStr ng ws (.str ⟨#[c]⟩) (.str z) = some (.bl (if ng then !decide (c ∈ tl z) else decide (c ∈ tl z))) := by
  have e : (!(Builtin.Str.occurrences z ⟨#[c]⟩ 0 z.length 1).isEmpty) = decide (c ∈ tl z) := StrLaws.found_one z c
  cases ng <;> simp only [fInStr, e] <;> rfl
theorem atI_n {α : Type} {l : List α} {i : Nat} : atI l (i : Nat) = l[i]? := by
  unfold L2.atI
  by_cases h : i < l.length
  · have : ixN l.length (i : Int) = some i := by
      have h1 : (0 : Int) ≤ i := by omega
      have h2 : (i : Int) < l.length := by omega
      simp [ixN, h1, h2]
    rw [this]
    rfl
  · have : ixN l.length (i : Int) = none := by
      have h1 : (0 : Int) ≤ i := by omega
      have h2 : ¬ (i : Int) < l.length := by omega
      simp [ixN, h1, h2]
    rw [this]
    simp at h
    simp [h]
end RL
set_option Elab.async false
set_option linter.all false
set_option maxRecDepth 100000
set_option maxHeartbeats 4000000
/-! RL41: s.split(..), a list that will be written. -/
namespace RL
open PySem PySem.Spec PyProof.Rows L2
def fmSplitM : Fm := fun d ds ws => match d, ds with
  | .str a, [.str b] => if (b.length == 0) = false ∧ a.length ≤ 90000 then some (.cell ws.length, ws ++ [.lst ((Txt.split a b).map .str)]) else none
  | _, _ => none
theorem md_splitM {K : PySem.W.Frag} : MeD K "str" (fun x xs H Q => ∃ a b, x = .str a ∧ xs = [.str b] ∧ (b.length == 0) = false ∧ a.length + 2 ≤ sizeLine ∧ rNewStrs (Txt.split a b) H Q) fmSplitM := fun ws G H as x xs d ds y ws' Q W rx rs e k => by
  unfold fmSplitM at e
  split at e
  · rename_i a b
    split at e
    · rename_i h
      cases e
      obtain ⟨v, us, f1, f2, f3⟩ := rs.uncons
      rw [f3.unnil] at f1
      simp only [Rep] at f2 rx
      subst f2 f1 rx
      refine ⟨a, b, rfl, rfl, h.1, small5 (n := a.length + 2) (by
        have := h.2
        omega), fun p hp => k _ _ _ _ (Rch.cell hp) (W.cell (c := .lst ((Txt.split a b).map .str)) hp ⟨_, rfl, str_reps⟩) (rep_cell W)⟩
    · cases e
  · cases e
end RL
set_option Elab.async false
set_option linter.all false
set_option maxRecDepth 100000
/-! what each def of the text does, printed by gen -/
namespace K87
open RL PySem L2
def tab_Packet : List (Tn × Bool) := [(.b "NoneType", false), (.b "bool", false), (.b "int", false), (.b "str", false), (.b "tuple", false), (.b "list", false), (.b "dict", false), (.c "Packet", true)]
def tab_bool : List (Tn × Bool) := [(.b "NoneType", false), (.b "bool", true), (.b "int", false), (.b "str", false), (.b "tuple", false), (.b "list", false), (.b "dict", false), (.c "Packet", false)]
def tab_int : List (Tn × Bool) := [(.b "NoneType", false), (.b "bool", true), (.b "int", true), (.b "str", false), (.b "tuple", false), (.b "list", false), (.b "dict", false), (.c "Packet", false)]
def tab_list : List (Tn × Bool) := [(.b "NoneType", false), (.b "bool", false), (.b "int", false), (.b "str", false), (.b "tuple", false), (.b "list", true), (.b "dict", false), (.c "Packet", false)]
def tab_str : List (Tn × Bool) := [(.b "NoneType", false), (.b "bool", false), (.b "int", false), (.b "str", true), (.b "tuple", false), (.b "list", false), (.b "dict", false), (.c "Packet", false)]
def tab_tuple : List (Tn × Bool) := [(.b "NoneType", false), (.b "bool", false), (.b "int", false), (.b "str", false), (.b "tuple", true), (.b "list", false), (.b "dict", false), (.c "Packet", false)]
def tabT_list_tuple : List (Tn × Bool) := [(.b "NoneType", false), (.b "bool", false), (.b "int", false), (.b "str", false), (.b "tuple", true), (.b "list", true), (.b "dict", false), (.c "Packet", false)]
def xcl_BadStream : List Str := ["BadStream"]
def xtab_BadStream : List (Str × Bool) := [("BadStream", true), ("BadText", false)]
def xcl_BadText : List Str := ["BadText"]
def xtab_BadText : List (Str × Bool) := [("BadStream", false), ("BadText", true)]
def xcs_line : List Str := ["BadText"]
def xcs_part : List Str := ["BadStream"]
def xcs_word : List Str := ["BadText"]
def catT_BadText : List (Str × Bool) := [("BadStream", false), ("BadText", true)]
def xcat : List (Str × Bool) := [("BadStream", true), ("BadText", true)]
def N_Packet___eq__ : List Str := ["self", "other"]
def g_Packet___eq__ : Ss := (sRet (sAnd (sIsi tab_Packet (sVar 1)) (sAnd (sOp fEqS (sAttr "Packet" "tick" 0 (sVar 0)) (sAttr "Packet" "tick" 0 (sVar 1))) (sOp fEqD (sAttr "Packet" "parts" 1 (sVar 0)) (sAttr "Packet" "parts" 1 (sVar 1))))))
def m_Packet___eq__ : Mf := bodyM false 2 N_Packet___eq__ g_Packet___eq__
def N_Packet___init__ : List Str := ["self", "tick", "parts"]
def g_Packet___init__ : Ss := (sSeq (sNewF "Packet" "tick" (sVar 0) (sVar 1))
    (sNewF "Packet" "parts" (sVar 0) (sVar 2)))
def m_Packet___init__ : Mf := bodyM false 3 N_Packet___init__ g_Packet___init__
def N__law_draw : List Str := ["_law_pen_here", "_law_many", "_law_digit", "_law_step", "_law_cell", "_law_great", "_law_mixed"]
def g__law_draw : Ss := (sSeq (sIfS (sB (sOp fGt (sOp fIx (sVar 0) (sC (.int 2))) (sC (.int 0)))) (sSeq (sSet 2 (sOp fMod (sCB (fb1 gInt) (sCons (sOp fIx (sVar 0) (sC (.int 2))) sNil)) (sVar 1)))
    (sSeq (sAsg (sOp fFdiv (sCB (fb1 gInt) (sCons (sOp fIx (sVar 0) (sC (.int 2))) sNil)) (sVar 1)) (tgItem (sVar 0) (sC (.int 2))))
    (sRet (sVar 2)))) sNext)
    (sSeq (sSet 3 (sOp fIx (sVar 0) (sC (.int 1))))
    (sSeq (sAsg (sOp fAdd (sVar 3) (sC (.int 1))) (tgItem (sVar 0) (sC (.int 1))))
    (sSeq (sSet 4 (sOp fAdd (sOp fMul (sC (.int 57479)) (sVar 3)) (sC (.int 3273))))
    (sSeq (sIfS (sB (sOp fNeD (sOp fIx (sVar 0) (sC (.int 0))) (sLst sNil))) (sSet 4 (sOp fIx (sOp fIx (sVar 0) (sC (.int 0))) (sOp fMod (sCB (fb1 gInt) (sCons (sVar 3) sNil)) (sCB (fb1 gLen) (sCons (sOp fIx (sVar 0) (sC (.int 0))) sNil))))) sNext)
    (sSeq (sIfS (sAndT (sB (sOp fLt (sVar 3) (sCB (fb1 gLen) (sCons (sOp fIx (sVar 0) (sC (.int 0))) sNil)))) (sB (sOp fGe (sCB (fb1 gAbs) (sCons (sVar 4) sNil)) (sOp fPow (sC (.int 10)) (sC (.int 18)))))) (sSeq (sSet 5 (sOp fAdd (sOp fMul (sC (.int 2)) (sOp fSub (sCB (fb1 gAbs) (sCons (sVar 4) sNil)) (sOp fPow (sC (.int 10)) (sC (.int 18))))) (sCB (fb1 gInt) (sCons (sOp fLt (sVar 4) (sC (.int 0))) sNil))))
    (sSeq (sAsg (sOp fFdiv (sCB (fb1 gInt) (sCons (sVar 5) sNil)) (sVar 1)) (tgItem (sVar 0) (sC (.int 2))))
    (sRet (sOp fMod (sCB (fb1 gInt) (sCons (sVar 5) sNil)) (sVar 1))))) sNext)
    (sSeq (sSet 6 (sOp fMod (sCB (fb1 gInt) (sCons (sOp fPow (sOp fAdd (sOp fAdd (sOp fMod (sCB (fb1 gInt) (sCons (sVar 4) sNil)) (sC (.int 2147483497))) (sOp fMul (sC (.int 51505)) (sVar 3))) (sC (.int 967))) (sC (.int 5))) sNil)) (sC (.int 2147483563))))
    (sSeq (sSet 6 (sOp fMod (sCB (fb1 gInt) (sCons (sOp fPow (sOp fAdd (sOp fAdd (sOp fMul (sVar 6) (sOp fAdd (sOp fMul (sC (.int 2)) (sVar 3)) (sC (.int 909)))) (sOp fMul (sOp fMul (sC (.int 57815)) (sVar 3)) (sVar 3))) (sC (.int 591))) (sC (.int 3))) sNil)) (sC (.int 2147483579))))
    (sRet (sOp fMod (sCB (fb1 gInt) (sCons (sOp fFdiv (sVar 6) (sC (.int 32))) sNil)) (sVar 1)))))))))))
def m__law_draw : Mf := bodyM false 2 N__law_draw g__law_draw
def N__law_pick : List Str := ["_law_pen_here", "_law_some"]
def g__law_pick : Ss := (sRet (sOp fIx (sVar 1) (sCall m__law_draw (sCons (sVar 0) (sCons (sCB (fb1 gLen) (sCons (sVar 1) sNil)) sNil)))))
def m__law_pick : Mf := bodyM false 2 N__law_pick g__law_pick
def N__law_bent : List Str := ["_law_pen_here", "_law_page", "_law_lines", "_law_way", "_law_at", "_law_words", "_law_spot_so", "_law_word"]
def g__law_bent : Ss := (sSeq (sPar [2, 3] (sCons (sMB "str" fmSplitM (sVar 1) (sCons (sC (.str "
")) sNil)) (sCons (sCall m__law_draw (sCons (sVar 0) (sCons (sC (.int 6)) sNil))) sNil)))
    (sSeq (sSet 4 (sCall m__law_draw (sCons (sVar 0) (sCons (sCB (fb1 gLen) (sCons (sVar 2) sNil)) sNil))))
    (sSeq (sSet 5 (sMB "str" fmSplit (sOp fIx (sVar 2) (sVar 4)) (sCons (sC (.str " ")) sNil)))
    (sSeq (sSet 6 (sCall m__law_draw (sCons (sVar 0) (sCons (sCB (fb1 gLen) (sCons (sVar 5) sNil)) sNil))))
    (sSeq (sSet 7 (sCall m__law_pick (sCons (sVar 0) (sCons (sLst (sCons (sC (.str "")) (sCons (sC (.str "-")) (sCons (sC (.str "0")) (sCons (sC (.str "7")) (sCons (sC (.str ":")) (sCons (sC (.str "01")) (sCons (sC (.str "-1")) (sCons (sC (.str "a")) (sCons (sC (.str "1:")) (sCons (sC (.str "0 : -")) (sCons (sC (.str "3 : 4 5")) sNil)))))))))))) sNil))))
    (sSeq (sIfS (sB (sOp fEqS (sVar 3) (sC (.int 0)))) (sAsg (sMB "str" fmJoin (sC (.str " ")) (sCons (sOp fCat (sOp fCat (sSlice (sVar 5) soNone (soSome (sVar 6))) (sLst (sCons (sVar 7) sNil))) (sSlice (sVar 5) (soSome (sOp fAdd (sVar 6) (sC (.int 1)))) soNone)) sNil)) (tgItem (sVar 2) (sVar 4))) sNext)
    (sSeq (sIfS (sB (sOp fEqS (sVar 3) (sC (.int 1)))) (sAsg (sMB "str" fmJoin (sC (.str " ")) (sCons (sOp fCat (sOp fCat (sSlice (sVar 5) soNone (soSome (sVar 6))) (sLst (sCons (sVar 7) sNil))) (sSlice (sVar 5) (soSome (sVar 6)) soNone)) sNil)) (tgItem (sVar 2) (sVar 4))) sNext)
    (sSeq (sIfS (sB (sOp fEqS (sVar 3) (sC (.int 2)))) (sAsg (sMB "str" fmJoin (sC (.str " ")) (sCons (sOp fCat (sSlice (sVar 5) soNone (soSome (sVar 6))) (sSlice (sVar 5) (soSome (sOp fAdd (sVar 6) (sC (.int 1)))) soNone)) sNil)) (tgItem (sVar 2) (sVar 4))) sNext)
    (sSeq (sIfS (sB (sOp fEqS (sVar 3) (sC (.int 3)))) (sSet 2 (sOp fCat (sOp fCat (sSlice (sVar 2) soNone (soSome (sOp fAdd (sVar 4) (sC (.int 1))))) (sLst (sCons (sVar 7) sNil))) (sSlice (sVar 2) (soSome (sOp fAdd (sVar 4) (sC (.int 1)))) soNone))) sNext)
    (sSeq (sIfS (sB (sOp fEqS (sVar 3) (sC (.int 4)))) (sSet 2 (sOp fCat (sSlice (sVar 2) soNone (soSome (sVar 4))) (sSlice (sVar 2) (soSome (sOp fAdd (sVar 4) (sC (.int 1)))) soNone))) sNext)
    (sSeq (sIfS (sB (sOp fEqS (sVar 3) (sC (.int 5)))) (sAsg (sOp fAddS (sOp fAddS (sOp fIx (sVar 2) (sVar 4)) (sC (.str " "))) (sVar 7)) (tgItem (sVar 2) (sVar 4))) sNext)
    (sRet (sMB "str" fmJoin (sC (.str "
")) (sCons (sVar 2) sNil))))))))))))))
def m__law_bent : Mf := bodyM false 2 N__law_bent g__law_bent
def N_counted : List Str := ["words", "spot", "word", "figure"]
def g_counted : Ss := (sSeq (sSet 2 (sIf (sB (sOp fLt (sVar 1) (sCB (fb1 gLen) (sCons (sVar 0) sNil)))) (sOp fIx (sVar 0) (sVar 1)) (sC (.str ""))))
    (sSeq (sIfS (sOrT (sB (sOp fEqS (sVar 2) (sC (.str "")))) (sOrT (sNot (sB (sCB (fb1 gAll) (sCons (sLc [3] (sItS (sVar 2)) (tgName 3) sYes (sOp (fInStr false) (sVar 3) (sC (.str "0123456789")))) sNil)))) (sAndT (sB (sOp fEqS (sOp fIx (sVar 2) (sC (.int 0))) (sC (.str "0")))) (sB (sOp fGt (sCB (fb1 gLen) (sCons (sVar 2) sNil)) (sC (.int 1))))))) (sRaise "BadText" ["line", "word"] (sCons (sC (.int 0)) (sCons (sVar 1) sNil))) sNext)
    (sRet (sCB (fb1 gIntS) (sCons (sVar 2) sNil)))))
def m_counted : Mf := bodyM false 2 N_counted g_counted
def N_Packet_read : List Str := ["cls", "text", "words", "tick", "parts", "spot"]
abbrev b_Packet_read_0 : Ss := (sExpr (sMB "list" fmAppend (sVar 4) (sCons (sCall m_counted (sCons (sVar 2) (sCons (sVar 5) sNil))) sNil)))
def g_Packet_read : Ss := (sSeq (sSet 2 (sIf (sB (sIsi tab_str (sVar 1))) (sMB "str" fmSplit (sVar 1) (sCons (sC (.str " ")) sNil)) (sLst (sCons (sC (.str "")) sNil))))
    (sSeq (sSet 3 (sCall m_counted (sCons (sVar 2) (sCons (sC (.int 0)) sNil))))
    (sSeq (sIfS (sOrT (sB (sOp fLt (sCB (fb1 gLen) (sCons (sVar 2) sNil)) (sC (.int 2)))) (sB (sOp fNeS (sOp fIx (sVar 2) (sC (.int 1))) (sC (.str ":"))))) (sRaise "BadText" ["line", "word"] (sCons (sC (.int 0)) (sCons (sC (.int 1)) sNil))) sNext)
    (sSeq (sIfS (sAndT (sB (sOp fGt (sCB (fb1 gLen) (sCons (sVar 2) sNil)) (sC (.int 2)))) (sB (sOp fEqS (sOp fIx (sVar 2) (sC (.int 2))) (sC (.str "-"))))) (sSeq (sIfS (sB (sOp fGt (sCB (fb1 gLen) (sCons (sVar 2) sNil)) (sC (.int 3)))) (sRaise "BadText" ["line", "word"] (sCons (sC (.int 0)) (sCons (sC (.int 3)) sNil))) sNext)
    (sRet (sMk false "Packet" m_Packet___init__ (sCons (sVar 3) (sCons (sTup sNil) sNil)) sNil))) sNext)
    (sSeq (sSet 4 (sLstM (sCons (sCall m_counted (sCons (sVar 2) (sCons (sC (.int 2)) sNil))) sNil)))
    (sSeq (sFor (sItR2 (sCons (sC (.int 3)) (sCons (sCB (fb1 gLen) (sCons (sVar 2) sNil)) sNil))) (tgName 5) b_Packet_read_0)
    (sRet (sMk false "Packet" m_Packet___init__ (sCons (sVar 3) (sCons (sCB (fb1 gTuple) (sCons (sVar 4) sNil)) sNil)) sNil))))))))
def m_Packet_read : Mf := bodyM false 2 N_Packet_read g_Packet_read
def N__law_heard : List Str := ["_law_ask", "_law_caught", "error"]
def g__law_heard : Ss := (sSeq (sIfS (sB (sCB (fbIsX xcl_BadStream xtab_BadStream) (sCons (sVar 1) (sCons (sC (.cls "BadStream")) sNil)))) (sRet (sTup (sCons (sC (.str "stream")) (sCons (sXf xcs_part "part" (sVar 1)) sNil)))) sNext)
    (sRet (sIf (sB (sCB (fbIsX xcl_BadText xtab_BadText) (sCons (sVar 1) (sCons (sC (.cls "BadText")) sNil)))) (sTup (sCons (sC (.str "text")) (sCons (sCB (fb1 gReprA) (sCons (sXf xcs_line "line" (sVar 1)) sNil)) (sCons (sCB (fb1 gReprA) (sCons (sXf xcs_word "word" (sVar 1)) sNil)) sNil)))) (sTup (sCons (sC (.str "odd")) sNil)))))
def m__law_heard : (List Ce → R D) → List Ce → R D := hrd xcat N__law_heard g__law_heard
def N__law_due : List Str := ["_law_page", "_law_lines", "_law_at", "_law_line", "_law_heard_here"]
abbrev b__law_due_0 : Ss := (sSeq (sSet 3 (sOp fIx (sVar 1) (sVar 2)))
    (sSeq (sSet 4 (sAsk m__law_heard (sCm "Packet" m_Packet_read (sCons (sVar 3) sNil))))
    (sIfS (sNot (sB (sIsi tab_list (sVar 4)))) (sRet (sIf (sB (sOp fEqS (sCB (fb1 gLen) (sCons (sVar 4) sNil)) (sC (.int 3)))) (sTup (sCons (sC (.str "text")) (sCons (sCB (fb1 gStr) (sCons (sVar 2) sNil)) (sCons (sOp fIx (sVar 4) (sC (.int 2))) sNil)))) (sTup (sCons (sC (.str "not a text")) sNil)))) sNext)))
def g__law_due : Ss := (sSeq (sSet 1 (sMB "str" fmSplit (sVar 0) (sCons (sC (.str "
")) sNil)))
    (sSeq (sIfS (sB (sOp fEqS (sOp fIx (sMB "str" fmSplit (sOp fIx (sVar 1) (sC (.int 0))) (sCons (sC (.str " ")) sNil)) (sC (.int 0))) (sC (.str "-")))) (sSeq (sIfS (sB (sOp fNeS (sOp fIx (sVar 1) (sC (.int 0))) (sC (.str "-")))) (sRet (sTup (sCons (sC (.str "text")) (sCons (sC (.str "0")) (sCons (sC (.str "1")) sNil))))) sNext)
    (sRet (sIf (sB (sOp fEqS (sCB (fb1 gLen) (sCons (sVar 1) sNil)) (sC (.int 1)))) (sC .non) (sTup (sCons (sC (.str "text")) (sCons (sC (.str "1")) (sCons (sC (.str "0")) sNil))))))) sNext)
    (sSeq (sFor (sItR1 (sCons (sCB (fb1 gLen) (sCons (sVar 1) sNil)) sNil)) (tgName 2) b__law_due_0)
    (sRet (sC .non)))))
def m__law_due : Mf := bodyM false 1 N__law_due g__law_due
def N_Packet___str__ : List Str := ["self", "part"]
def g_Packet___str__ : Ss := (sRet (sJoined [(sFmt (sAttr "Packet" "tick" 0 (sVar 0))), (sC (.str " : ")), (sFmt (sOrV (sMB "str" fmJoin (sC (.str " ")) (sCons (sLc [1] (sItT (sAttr "Packet" "parts" 1 (sVar 0))) (tgName 1) sYes (sCB (fb1 gStr) (sCons (sVar 1) sNil))) sNil)) (sC (.str "-"))))]))
def m_Packet___str__ : Mf := bodyM false 1 N_Packet___str__ g_Packet___str__
def N_is_from_nought : List Str := ["value"]
def g_is_from_nought : Ss := (sRet (sAnd (sIsi tab_int (sVar 0)) (sAnd (sNotV (sIsi tab_bool (sVar 0))) (sOp fGe (sVar 0) (sC (.int 0))))))
def m_is_from_nought : Mf := bodyM false 1 N_is_from_nought g_is_from_nought
def N_is_packet : List Str := ["value", "number"]
def g_is_packet : Ss := (sSeq (sIfS (sOrT (sNot (sB (sIsi tab_Packet (sVar 0)))) (sOrT (sNot (sB (sCall m_is_from_nought (sCons (sAttr "Packet" "tick" 0 (sVar 0)) sNil)))) (sNot (sB (sIsi tab_tuple (sAttr "Packet" "parts" 1 (sVar 0))))))) (sRet (sC (.bl false))) sNext)
    (sRet (sCB (fb1 gAll) (sCons (sLc [1] (sItT (sAttr "Packet" "parts" 1 (sVar 0))) (tgName 1) sYes (sCall m_is_from_nought (sCons (sVar 1) sNil))) sNil))))
def m_is_packet : Mf := bodyM false 1 N_is_packet g_is_packet
def N_packets_text : List Str := ["packets", "packet"]
def g_packets_text : Ss := (sSeq (sIfS (sOrT (sNot (sB (sIsi tabT_list_tuple (sVar 0)))) (sNot (sB (sCB (fb1 gAll) (sCons (sLc [1] (sItQ (sVar 0)) (tgName 1) sYes (sCall m_is_packet (sCons (sVar 1) sNil))) sNil))))) (sRaise "BadStream" ["part"] (sCons (sC (.str "packets")) sNil)) sNext)
    (sRet (sIf (sB (sOp fGt (sCB (fb1 gLen) (sCons (sVar 0) sNil)) (sC (.int 0)))) (sMB "str" fmJoin (sC (.str "
")) (sCons (sLc [1] (sItQ (sVar 0)) (tgName 1) sYes (sStrO "Packet" m_Packet___str__ (sCons (sVar 1) sNil))) sNil)) (sC (.str "-")))))
def m_packets_text : Mf := bodyM false 1 N_packets_text g_packets_text
def N_lines_of : List Str := ["text", "line"]
def g_lines_of : Ss := (sSeq (sIfS (sNot (sB (sIsi tab_str (sVar 0)))) (sRaise "BadText" ["line", "word"] (sCons (sC (.int 0)) (sCons (sC (.int 0)) sNil))) sNext)
    (sRet (sLc [1] (sItL (sMB "str" fmSplit (sVar 0) (sCons (sC (.str "
")) sNil))) (tgName 1) sYes (sMB "str" fmSplit (sVar 1) (sCons (sC (.str " ")) sNil)))))
def m_lines_of : Mf := bodyM false 1 N_lines_of g_lines_of
def N_need_end : List Str := ["lines", "at"]
def g_need_end : Ss := (sIfS (sB (sOp fGt (sCB (fb1 gLen) (sCons (sVar 0) sNil)) (sVar 1))) (sRaise "BadText" ["line", "word"] (sCons (sVar 1) (sCons (sC (.int 0)) sNil))) sNext)
def m_need_end : Mf := bodyM false 2 N_need_end g_need_end
def N_packet_in : List Str := ["words", "line", "error"]
def g_packet_in : Ss := (sTryN catT_BadText 2 (sCmX "Packet" m_Packet_read (sCons (sMB "str" fmJoin (sC (.str " ")) (sCons (sVar 0) sNil)) sNil)) (fun ex => sRaiseN "BadText" ["line", "word"] (sCons (sVar 1) (sCons (sXp xcs_word "word" ex) sNil))))
def m_packet_in : Mf := bodyM false 2 N_packet_in g_packet_in
def N_read_packets : List Str := ["text", "lines", "line", "words"]
def g_read_packets : Ss := (sSeq (sSet 1 (sCall m_lines_of (sCons (sVar 0) sNil)))
    (sSeq (sIfS (sB (sOp fEqS (sOp fIx (sOp fIx (sVar 1) (sC (.int 0))) (sC (.int 0))) (sC (.str "-")))) (sSeq (sIfS (sB (sOp fGt (sCB (fb1 gLen) (sCons (sOp fIx (sVar 1) (sC (.int 0))) sNil)) (sC (.int 1)))) (sRaise "BadText" ["line", "word"] (sCons (sC (.int 0)) (sCons (sC (.int 1)) sNil))) sNext)
    (sSeq (sExpr (sCall m_need_end (sCons (sVar 1) (sCons (sC (.int 1)) sNil))))
    (sRet (sTup sNil)))) sNext)
    (sRet (sCB (fb1 gTuple) (sCons (sLcX [2, 3] (sItE (sCons (sVar 1) sNil)) (tgTup 2 (tgCons (tgName 2) (tgCons (tgName 3) tgNil))) sYes (sCall m_packet_in (sCons (sVar 3) (sCons (sVar 2) sNil)))) sNil)))))
def m_read_packets : Mf := bodyM false 1 N_read_packets g_read_packets
def N__law_one_right : List Str := ["_law_page", "_law_due_here", "_law_heard_here"]
def g__law_one_right : Ss := (sSeq (sPar [1, 2] (sCons (sCall m__law_due (sCons (sVar 0) sNil)) (sCons (sAsk m__law_heard (sCall m_read_packets (sCons (sVar 0) sNil))) sNil)))
    (sSeq (sIfS (sB (sOp (fIsN true) (sVar 1) (sC .non))) (sRet (sOp fEqD (sVar 2) (sVar 1))) sNext)
    (sRet (sAnd (sIsi tab_list (sVar 2)) (sAnd (sIsi tab_tuple (sOp fIx (sVar 2) (sC (.int 0)))) (sOp fEqS (sCall m_packets_text (sCons (sOp fIx (sVar 2) (sC (.int 0))) sNil)) (sVar 0)))))))
def m__law_one_right : Mf := bodyM false 1 N__law_one_right g__law_one_right
def N__law_packet : List Str := ["_law_pen_here", "_law_tick", "_law_parts", "_law_turn_so", "_law_line", "_law_part"]
def g__law_packet : Ss := (sSeq (sSet 1 (sCall m__law_pick (sCons (sVar 0) (sCons (sLst (sCons (sC (.int 0)) (sCons (sC (.int 1)) (sCons (sC (.int 2)) (sCons (sCall m__law_draw (sCons (sVar 0) (sCons (sC (.int 1000)) sNil))) (sCons (sOp fPow (sC (.int 10)) (sC (.int 9))) (sCons (sOp fPow (sC (.int 10)) (sC (.int 30))) sNil))))))) sNil))))
    (sSeq (sSet 2 (sLc [3] (sItR1 (sCons (sCall m__law_pick (sCons (sVar 0) (sCons (sLst (sCons (sC (.int 0)) (sCons (sC (.int 1)) (sCons (sC (.int 2)) (sCons (sC (.int 2)) (sCons (sC (.int 6)) sNil)))))) sNil))) sNil)) (tgName 3) sYes (sCall m__law_pick (sCons (sVar 0) (sCons (sLst (sCons (sC (.int 0)) (sCons (sC (.int 1)) (sCons (sCall m__law_draw (sCons (sVar 0) (sCons (sC (.int 100)) sNil))) (sCons (sOp fPow (sC (.int 10)) (sC (.int 30))) (sCons (sOp fPow (sC (.int 10)) (sC (.int 39))) sNil)))))) sNil)))))
    (sSeq (sSet 4 (sOp fAddS (sOp fAddS (sCB (fb1 gStr) (sCons (sVar 1) sNil)) (sC (.str " : "))) (sIf (sB (sOp fNeD (sVar 2) (sLst sNil))) (sMB "str" fmJoin (sC (.str " ")) (sCons (sLc [5] (sItL (sVar 2)) (tgName 5) sYes (sCB (fb1 gStr) (sCons (sVar 5) sNil))) sNil)) (sC (.str "-")))))
    (sRet (sTup (sCons (sMk false "Packet" m_Packet___init__ (sCons (sVar 1) (sCons (sCB (fb1 gTuple) (sCons (sVar 2) sNil)) sNil)) sNil) (sCons (sVar 4) sNil)))))))
def m__law_packet : Mf := bodyM false 1 N__law_packet g__law_packet
def N__law_pen : List Str := ["_law_script"]
def g__law_pen : Ss := (sRet (sLstM (sCons (sCB (fb1 gList) (sCons (sSlice (sVar 0) soNone (soSome (sC (.int 63)))) sNil)) (sCons (sC (.int 0)) (sCons (sC (.int 0)) sNil)))))
def m__law_pen : Mf := bodyM true 1 N__law_pen g__law_pen
def N_law : List Str := ["_law_script", "_law_pen_here", "_law_turn_so", "_law_pairs", "_law_lap_so", "_law_packets", "_law_page", "_law_packet_here", "_law_line", "_law_bent_here", "_law_some", "_law_odd", "_law_due_here"]
abbrev b_law_0 : Ss := (sSeq (sSet 9 (sCall m__law_bent (sCons (sVar 1) (sCons (sVar 6) sNil))))
    (sIfS (sOrT (sNot (sB (sCall m__law_one_right (sCons (sVar 9) sNil)))) (sNot (sB (sCall m__law_one_right (sCons (sCall m__law_bent (sCons (sVar 1) (sCons (sVar 9) sNil))) sNil))))) (sRet (sC (.bl false))) sNext))
abbrev b_law_1 : Ss := (sSeq (sSet 3 (sLc [4] (sItR1 (sCons (sCall m__law_draw (sCons (sVar 1) (sCons (sC (.int 9)) sNil))) sNil)) (tgName 4) sYes (sCall m__law_packet (sCons (sVar 1) sNil))))
    (sSeq (sPar [5, 6] (sCons (sLc [7, 8] (sItL (sVar 3)) (tgTup 2 (tgCons (tgName 7) (tgCons (tgName 8) tgNil))) sYes (sVar 7)) (sCons (sIf (sB (sOp (fEqNil true) (sVar 3) (sLst sNil))) (sMB "str" fmJoin (sC (.str "
")) (sCons (sLc [7, 8] (sItL (sVar 3)) (tgTup 2 (tgCons (tgName 7) (tgCons (tgName 8) tgNil))) sYes (sVar 8)) sNil)) (sC (.str "-"))) sNil)))
    (sSeq (sIfS (sOrT (sB (sOp fNeS (sCall m_packets_text (sCons (sVar 5) sNil)) (sVar 6))) (sB (sOp fNeS (sCall m_packets_text (sCons (sCB (fb1 gTuple) (sCons (sVar 5) sNil)) sNil)) (sVar 6)))) (sRet (sC (.bl false))) sNext)
    (sSeq (sIfS (sOrT (sB (sOp (fQ (qNot' (qTup (qOne "Packet" (qIns "Packet" "Packet" m_Packet___eq__))))) (sCall m_read_packets (sCons (sVar 6) sNil)) (sCB (fb1 gTuple) (sCons (sVar 5) sNil)))) (sNot (sB (sCall m__law_one_right (sCons (sVar 6) sNil))))) (sRet (sC (.bl false))) sNext)
    (sSeq (sFor (sItR1 (sCons (sC (.int 3)) sNil)) (tgName 4) b_law_0)
    (sSeq (sSet 10 (sLst (sCons (sC .non) (sCons (sC (.int 0)) (sCons (sC (.str "-")) (sCons (sVar 6) (sCons sDct0 (sCons (sLst (sCons (sC .non) sNil)) (sCons (sTup (sCons (sC (.str "0 : -")) sNil)) (sCons (sC (.bl true)) (sCons (sMk false "Packet" m_Packet___init__ (sCons (sC (.int 0)) (sCons (sTup sNil) sNil)) sNil) (sCons (sOp fCat (sVar 5) (sLst (sCons (sC (.int 0)) sNil))) (sCons (sLst (sCons (sMk false "Packet" m_Packet___init__ (sCons (sC (.int 0)) (sCons (sLst (sCons (sC (.int 1)) sNil)) sNil)) sNil) sNil)) (sCons (sLst (sCons (sMk false "Packet" m_Packet___init__ (sCons (sNeg (sC (.int 1))) (sCons (sTup sNil) sNil)) sNil) sNil)) sNil))))))))))))))
    (sSeq (sSet 10 (sOp fCat (sVar 10) (sLst (sCons (sLst (sCons (sMk false "Packet" m_Packet___init__ (sCons (sC (.bl true)) (sCons (sTup sNil) sNil)) sNil) sNil)) (sCons (sLst (sCons (sMk false "Packet" m_Packet___init__ (sCons (sC (.int 0)) (sCons (sTup (sCons (sC (.bl true)) sNil)) sNil)) sNil) sNil)) (sCons (sLst (sCons (sMk false "Packet" m_Packet___init__ (sCons (sC (.int 0)) (sCons (sTup (sCons (sC (.int 1)) (sCons (sNeg (sC (.int 1))) sNil))) sNil)) sNil) sNil)) (sCons (sLst (sCons (sMk false "Packet" m_Packet___init__ (sCons (sC .non) (sCons (sTup (sCons (sC (.int 1)) sNil)) sNil)) sNil) sNil)) (sCons (sLst (sCons (sMk false "Packet" m_Packet___init__ (sCons (sC (.int 0)) (sCons (sC .non) sNil)) sNil) sNil)) (sCons (sLst (sCons (sMk false "Packet" m_Packet___init__ (sCons (sC (.str "0")) (sCons (sTup sNil) sNil)) sNil) sNil)) sNil)))))))))
    (sSeq (sSet 11 (sCall m__law_pick (sCons (sVar 1) (sCons (sVar 10) sNil))))
    (sSeq (sIfS (sB (sOp fNeD (sAsk m__law_heard (sCall m_packets_text (sCons (sVar 11) sNil))) (sTup (sCons (sC (.str "stream")) (sCons (sC (.str "packets")) sNil))))) (sRet (sC (.bl false))) sNext)
    (sSeq (sSet 11 (sCall m__law_pick (sCons (sVar 1) (sCons (sLst (sCons (sC .non) (sCons (sC (.int 0)) (sCons (sC (.bl true)) (sCons (sTup sNil) (sCons (sLst (sCons (sC (.str "-")) sNil)) (sCons sDct0 (sCons (sMk false "Packet" m_Packet___init__ (sCons (sC (.int 0)) (sCons (sTup sNil) sNil)) sNil) sNil)))))))) sNil))))
    (sIfS (sB (sOp fNeD (sAsk m__law_heard (sCall m_read_packets (sCons (sVar 11) sNil))) (sTup (sCons (sC (.str "text")) (sCons (sC (.str "0")) (sCons (sC (.str "0")) sNil)))))) (sRet (sC (.bl false))) sNext)))))))))))
def g_law : Ss := (sSeq (sSet 1 (sCall m__law_pen (sCons (sVar 0) sNil)))
    (sSeq (sFor (sItR1 (sCons (sC (.int 7)) sNil)) (tgName 2) b_law_1)
    (sSeq (sSet 10 (sLst (sCons (sC (.str "")) (sCons (sC (.str "-")) (sCons (sC (.str "- ")) (sCons (sC (.str "-
")) (sCons (sC (.str "- -")) (sCons (sC (.str "0 : -
")) (sCons (sC (.str "0 : -
-")) (sCons (sC (.str "0 : - 1")) (sCons (sC (.str "0 :")) (sCons (sC (.str "0")) sNil))))))))))))
    (sSeq (sSet 12 (sLst (sCons (sTup (sCons (sC (.str "text")) (sCons (sC (.str "0")) (sCons (sC (.str "0")) sNil)))) (sCons (sC .non) (sCons (sTup (sCons (sC (.str "text")) (sCons (sC (.str "0")) (sCons (sC (.str "1")) sNil)))) (sCons (sTup (sCons (sC (.str "text")) (sCons (sC (.str "1")) (sCons (sC (.str "0")) sNil)))) (sCons (sTup (sCons (sC (.str "text")) (sCons (sC (.str "0")) (sCons (sC (.str "1")) sNil)))) (sCons (sTup (sCons (sC (.str "text")) (sCons (sC (.str "1")) (sCons (sC (.str "0")) sNil)))) (sCons (sTup (sCons (sC (.str "text")) (sCons (sC (.str "1")) (sCons (sC (.str "0")) sNil)))) sNil)))))))))
    (sRet (sAnd (sOp fEqD (sLc [6] (sItL (sVar 10)) (tgName 6) (sNot (sB (sCall m__law_one_right (sCons (sVar 6) sNil)))) (sVar 6)) (sLst sNil)) (sOp fEqD (sLc [6] (sItL (sSlice (sVar 10) soNone (soSome (sC (.int 7))))) (tgName 6) sYes (sCall m__law_due (sCons (sVar 6) sNil))) (sVar 12))))))))
def m_law : Mf := bodyM false 1 N_law g_law
end K87
set_option Elab.async false
set_option linter.all false
set_option maxRecDepth 100000
set_option maxHeartbeats 4000000
/-! each def does what is told of it -/
namespace K87
open RL PySem PySem.Spec PyProof.Rows L2
abbrev top (i : Nat) : Stmt := PySem.Challenge.pw_laterepair_k87_texts_of_packets.main.body.getD i (.Pass ⟨0, 0, 0, 0⟩)
abbrev s_Packet___eq__ : Stmt := inClass (top 5) 2
abbrev s_Packet___init__ : Stmt := inClass (top 5) 0
abbrev s__law_draw : Stmt := top 18
abbrev s__law_pick : Stmt := top 19
abbrev s__law_bent : Stmt := top 23
abbrev s_counted : Stmt := top 6
abbrev s_Packet_read : Stmt := inClass (top 5) 1
abbrev s__law_heard : Stmt := top 20
abbrev s__law_due : Stmt := top 22
abbrev s_Packet___str__ : Stmt := inClass (top 5) 3
abbrev s_is_from_nought : Stmt := top 8
abbrev s_is_packet : Stmt := top 9
abbrev s_packets_text : Stmt := top 10
abbrev s_lines_of : Stmt := top 12
abbrev s_need_end : Stmt := top 13
abbrev s_packet_in : Stmt := top 14
abbrev s_read_packets : Stmt := top 15
abbrev s__law_one_right : Stmt := top 24
abbrev s__law_packet : Stmt := top 21
abbrev s__law_pen : Stmt := top 17
abbrev s_law : Stmt := top 25
abbrev s_BadStream___init__ : Stmt := inClass (top 2) 0
abbrev xd_BadStream : Xf := ⟨"BadStream", "BadStream.__init__", defArgs s_BadStream___init__, defBody s_BadStream___init__, defScope s_BadStream___init__⟩
abbrev s_BadText___init__ : Stmt := inClass (top 3) 0
abbrev xd_BadText : Xf := ⟨"BadText", "BadText.__init__", defArgs s_BadText___init__, defBody s_BadText___init__, defScope s_BadText___init__⟩
structure Fx (P : Program) (w : World) (K : PySem.W.Frag) (mg : Str → Option Value) : Prop where
  glo_BadStream : mg "BadStream" = some (.ref (He.ga K "BadStream"))
  glo_BadText : mg "BadText" = some (.ref (He.ga K "BadText"))
  glo_Packet : mg "Packet" = some (.ref (He.ga K "Packet"))
  glo_RepairError : mg "RepairError" = some (.ref (He.ga K "RepairError"))
  glo__law_bent : mg "_law_bent" = some (.ref (He.ga K "_law_bent"))
  glo__law_draw : mg "_law_draw" = some (.ref (He.ga K "_law_draw"))
  glo__law_due : mg "_law_due" = some (.ref (He.ga K "_law_due"))
  glo__law_heard : mg "_law_heard" = some (.ref (He.ga K "_law_heard"))
  glo__law_one_right : mg "_law_one_right" = some (.ref (He.ga K "_law_one_right"))
  glo__law_packet : mg "_law_packet" = some (.ref (He.ga K "_law_packet"))
  glo__law_pen : mg "_law_pen" = some (.ref (He.ga K "_law_pen"))
  glo__law_pick : mg "_law_pick" = some (.ref (He.ga K "_law_pick"))
  glo_counted : mg "counted" = some (.ref (He.ga K "counted"))
  glo_is_from_nought : mg "is_from_nought" = some (.ref (He.ga K "is_from_nought"))
  glo_is_packet : mg "is_packet" = some (.ref (He.ga K "is_packet"))
  glo_law : mg "law" = some (.ref (He.ga K "law"))
  glo_lines_of : mg "lines_of" = some (.ref (He.ga K "lines_of"))
  glo_need_end : mg "need_end" = some (.ref (He.ga K "need_end"))
  glo_packet_in : mg "packet_in" = some (.ref (He.ga K "packet_in"))
  glo_packets_text : mg "packets_text" = some (.ref (He.ga K "packets_text"))
  glo_read_packets : mg "read_packets" = some (.ref (He.ga K "read_packets"))
  free_abs : mg "abs" = none
  free_all : mg "all" = none
  free_bool : mg "bool" = none
  free_enumerate : mg "enumerate" = none
  free_int : mg "int" = none
  free_isinstance : mg "isinstance" = none
  free_len : mg "len" = none
  free_list : mg "list" = none
  free_range : mg "range" = none
  free_repr : mg "repr" = none
  free_str : mg "str" = none
  free_tuple : mg "tuple" = none
  cls_Packet : Cls K (He.ga K "Packet")
  isc_Packet : IsC K "Packet"
  noat_Packet_parts : NoAttr K (He.ga K "Packet") "parts"
  noat_Packet_tick : NoAttr K (He.ga K "Packet") "tick"
  isf : IsF K
  me_Packet___eq__ : Meth K (He.ga K "Packet") "__eq__" (He.ma K (He.ga K "Packet") "__eq__")
  fi_Packet___eq__ : PySem.W.fnIn K (He.ma K (He.ga K "Packet") "__eq__") = true
  me_Packet___str__ : Meth K (He.ga K "Packet") "__str__" (He.ma K (He.ga K "Packet") "__str__")
  fi_Packet___str__ : PySem.W.fnIn K (He.ma K (He.ga K "Packet") "__str__") = true
  mk_Packet : Mk K (He.ga K "Packet") (He.ma K (He.ga K "Packet") "__init__")
  cm_Packet_read : ∃ mc p, ClX.CRead K (He.ga K "Packet") mc ∧ ClX.CMet K (He.ga K "Packet") mc "read" p (cmA K "Packet" "read")
  exc_BadStream : ExcC K (He.ga K "BadStream")
  exc_BadText : ExcC K (He.ga K "BadText")
  xno_BadStream_part : PySem.W.findIn K (.ref (He.ga K "BadStream")) "part" = some none
  xno_BadText_line : PySem.W.findIn K (.ref (He.ga K "BadText")) "line" = some none
  xno_BadText_word : PySem.W.findIn K (.ref (He.ga K "BadText")) "word" = some none
  free_super : mg "super" = none
  isxb_BadStream : isxB xcl_BadStream xtab_BadStream K = true
  isxb_BadText : isxB xcl_BadText xtab_BadText K = true
  cat : catB "RepairError" xcat K = true
  tabU : tabUB K = true
  lam__law_due : lamAtB "_law_due" K = true
  lam__law_one_right : lamAtB "_law_one_right" K = true
  lam_law : lamAtB "law" K = true
  lamb : lamB ["_law_due", "_law_one_right", "law"] K = true
  catT_BadText : catB "BadText" catT_BadText K = true
  tabT_list_tuple : tabTB K tabT_list_tuple [.type "list", .type "tuple"] = true
  tab_Packet : tabB K tab_Packet (.ref (He.ga K "Packet")) = true
  tab_bool : tabB K tab_bool (.type "bool") = true
  tab_int : tabB K tab_int (.type "int") = true
  tab_list : tabB K tab_list (.type "list") = true
  tab_str : tabB K tab_str (.type "str") = true
  tab_tuple : tabB K tab_tuple (.type "tuple") = true
  nf_Packet_Packet : PySem.W.notFirst K (He.ga K "Packet") (.ref (He.ga K "Packet")) = true
  xf_BadStream : XfOk P K xd_BadStream
  xf_BadText : XfOk P K xd_BadText
  d_Packet___eq__ : ∃ fd, FunD K "__eq__" "Packet.__eq__" (defArgs s_Packet___eq__) (defBody s_Packet___eq__) (defScope s_Packet___eq__) [] [] (He.ma K (He.ga K "Packet") "__eq__") fd
  d_Packet___init__ : ∃ fd, FunD K "__init__" "Packet.__init__" (defArgs s_Packet___init__) (defBody s_Packet___init__) (defScope s_Packet___init__) [] [] (He.ma K (He.ga K "Packet") "__init__") fd
  d__law_draw : ∃ fd, FunD K "_law_draw" "_law_draw" (defArgs s__law_draw) (defBody s__law_draw) (defScope s__law_draw) [] [] (He.ga K "_law_draw") fd
  d__law_pick : ∃ fd, FunD K "_law_pick" "_law_pick" (defArgs s__law_pick) (defBody s__law_pick) (defScope s__law_pick) [] [] (He.ga K "_law_pick") fd
  d__law_bent : ∃ fd, FunD K "_law_bent" "_law_bent" (defArgs s__law_bent) (defBody s__law_bent) (defScope s__law_bent) [] [] (He.ga K "_law_bent") fd
  d_counted : ∃ fd, FunD K "counted" "counted" (defArgs s_counted) (defBody s_counted) (defScope s_counted) [] [] (He.ga K "counted") fd
  d_Packet_read : ∃ fd, FunD K "read" "Packet.read" (defArgs s_Packet_read) (defBody s_Packet_read) (defScope s_Packet_read) [] [] (cmA K "Packet" "read") fd
  d__law_heard : ∃ fd, FunD K "_law_heard" "_law_heard" (defArgs s__law_heard) (defBody s__law_heard) (defScope s__law_heard) [] [] (He.ga K "_law_heard") fd
  d__law_due : ∃ fd, FunD K "_law_due" "_law_due" (defArgs s__law_due) (defBody s__law_due) (defScope s__law_due) [] [] (He.ga K "_law_due") fd
  d_Packet___str__ : ∃ fd, FunD K "__str__" "Packet.__str__" (defArgs s_Packet___str__) (defBody s_Packet___str__) (defScope s_Packet___str__) [] [] (He.ma K (He.ga K "Packet") "__str__") fd
  d_is_from_nought : ∃ fd, FunD K "is_from_nought" "is_from_nought" (defArgs s_is_from_nought) (defBody s_is_from_nought) (defScope s_is_from_nought) [] [] (He.ga K "is_from_nought") fd
  d_is_packet : ∃ fd, FunD K "is_packet" "is_packet" (defArgs s_is_packet) (defBody s_is_packet) (defScope s_is_packet) [] [] (He.ga K "is_packet") fd
  d_packets_text : ∃ fd, FunD K "packets_text" "packets_text" (defArgs s_packets_text) (defBody s_packets_text) (defScope s_packets_text) [] [] (He.ga K "packets_text") fd
  d_lines_of : ∃ fd, FunD K "lines_of" "lines_of" (defArgs s_lines_of) (defBody s_lines_of) (defScope s_lines_of) [] [] (He.ga K "lines_of") fd
  d_need_end : ∃ fd, FunD K "need_end" "need_end" (defArgs s_need_end) (defBody s_need_end) (defScope s_need_end) [] [] (He.ga K "need_end") fd
  d_packet_in : ∃ fd, FunD K "packet_in" "packet_in" (defArgs s_packet_in) (defBody s_packet_in) (defScope s_packet_in) [] [] (He.ga K "packet_in") fd
  d_read_packets : ∃ fd, FunD K "read_packets" "read_packets" (defArgs s_read_packets) (defBody s_read_packets) (defScope s_read_packets) [] [] (He.ga K "read_packets") fd
  d__law_one_right : ∃ fd, FunD K "_law_one_right" "_law_one_right" (defArgs s__law_one_right) (defBody s__law_one_right) (defScope s__law_one_right) [] [] (He.ga K "_law_one_right") fd
  d__law_packet : ∃ fd, FunD K "_law_packet" "_law_packet" (defArgs s__law_packet) (defBody s__law_packet) (defScope s__law_packet) [] [] (He.ga K "_law_packet") fd
  d__law_pen : ∃ fd, FunD K "_law_pen" "_law_pen" (defArgs s__law_pen) (defBody s__law_pen) (defScope s__law_pen) [] [] (He.ga K "_law_pen") fd
  d_law : ∃ fd, FunD K "law" "law" (defArgs s_law) (defBody s_law) (defScope s_law) [] [] (He.ga K "law") fd
section
variable {P : Program} {w : World} {K : PySem.W.Frag} {mg : Str → Option Value} {base : Heap}
theorem tab_ok_Packet (Z : Fx P w K mg) : TabOk K tab_Packet (.ref (He.ga K "Packet")) := tab_of Z.tab_Packet fun p hp n e => by
  simp only [tab_Packet, List.mem_cons, List.not_mem_nil, or_false] at hp
  rcases hp with rfl | rfl | rfl | rfl | rfl | rfl | rfl | rfl
  all_goals first | (cases e; done) | (cases e; first | exact Z.isc_Packet)
theorem tab_ok_bool (Z : Fx P w K mg) : TabOk K tab_bool (.type "bool") := tab_of Z.tab_bool fun p hp n e => by
  simp only [tab_bool, List.mem_cons, List.not_mem_nil, or_false] at hp
  rcases hp with rfl | rfl | rfl | rfl | rfl | rfl | rfl | rfl
  all_goals first | (cases e; done) | (cases e; first | exact Z.isc_Packet)
theorem tab_ok_int (Z : Fx P w K mg) : TabOk K tab_int (.type "int") := tab_of Z.tab_int fun p hp n e => by
  simp only [tab_int, List.mem_cons, List.not_mem_nil, or_false] at hp
  rcases hp with rfl | rfl | rfl | rfl | rfl | rfl | rfl | rfl
  all_goals first | (cases e; done) | (cases e; first | exact Z.isc_Packet)
theorem tab_ok_list (Z : Fx P w K mg) : TabOk K tab_list (.type "list") := tab_of Z.tab_list fun p hp n e => by
  simp only [tab_list, List.mem_cons, List.not_mem_nil, or_false] at hp
  rcases hp with rfl | rfl | rfl | rfl | rfl | rfl | rfl | rfl
  all_goals first | (cases e; done) | (cases e; first | exact Z.isc_Packet)
theorem tab_ok_str (Z : Fx P w K mg) : TabOk K tab_str (.type "str") := tab_of Z.tab_str fun p hp n e => by
  simp only [tab_str, List.mem_cons, List.not_mem_nil, or_false] at hp
  rcases hp with rfl | rfl | rfl | rfl | rfl | rfl | rfl | rfl
  all_goals first | (cases e; done) | (cases e; first | exact Z.isc_Packet)
theorem tab_ok_tuple (Z : Fx P w K mg) : TabOk K tab_tuple (.type "tuple") := tab_of Z.tab_tuple fun p hp n e => by
  simp only [tab_tuple, List.mem_cons, List.not_mem_nil, or_false] at hp
  rcases hp with rfl | rfl | rfl | rfl | rfl | rfl | rfl | rfl
  all_goals first | (cases e; done) | (cases e; first | exact Z.isc_Packet)
theorem tabT_ok_list_tuple (Z : Fx P w K mg) : TabOkT K tabT_list_tuple [.type "list", .type "tuple"] := tabT_of Z.tabT_list_tuple fun p hp n e => by
  simp only [tabT_list_tuple, List.mem_cons, List.not_mem_nil, or_false] at hp
  rcases hp with rfl | rfl | rfl | rfl | rfl | rfl | rfl | rfl
  all_goals first | (cases e; done) | (cases e; first | exact Z.isc_Packet)
theorem isx_BadStream (Z : Fx P w K mg) : IsXT K xcl_BadStream xtab_BadStream := isx_of Z.isxb_BadStream fun p hp => by
  simp only [xtab_BadStream, List.mem_cons, List.not_mem_nil, or_false] at hp
  rcases hp with rfl | rfl
  · exact Z.exc_BadStream
  · exact Z.exc_BadText
theorem isx_BadText (Z : Fx P w K mg) : IsXT K xcl_BadText xtab_BadText := isx_of Z.isxb_BadText fun p hp => by
  simp only [xtab_BadText, List.mem_cons, List.not_mem_nil, or_false] at hp
  rcases hp with rfl | rfl
  · exact Z.exc_BadStream
  · exact Z.exc_BadText
theorem xft_line (Z : Fx P w K mg) : XfT K xcs_line "line" := fun c hc => by
  simp only [xcs_line, List.mem_cons, List.not_mem_nil, or_false] at hc
  rcases hc with rfl
  · exact ⟨xfc_of Z.exc_BadText, Z.xno_BadText_line⟩
theorem xft_part (Z : Fx P w K mg) : XfT K xcs_part "part" := fun c hc => by
  simp only [xcs_part, List.mem_cons, List.not_mem_nil, or_false] at hc
  rcases hc with rfl
  · exact ⟨xfc_of Z.exc_BadStream, Z.xno_BadStream_part⟩
theorem xft_word (Z : Fx P w K mg) : XfT K xcs_word "word" := fun c hc => by
  simp only [xcs_word, List.mem_cons, List.not_mem_nil, or_false] at hc
  rcases hc with rfl
  · exact ⟨xfc_of Z.exc_BadText, Z.xno_BadText_word⟩
theorem xmk_BadStream {X : Cx} (Z : Fx X.prog X.w X.K X.mg) : XMk X "BadStream" "BadStream" ["part"] := by
  obtain ⟨⟨fd, F, _⟩, hi, ti⟩ := Z.xf_BadStream
  refine ⟨⟨_, fd, ["self", "part"], F.ox, hi, ti, xfn1 (⟨rfl, rfl, rfl, by decide +kernel, by decide +kernel, by decide +kernel, rfl, rfl⟩) rfl F ⟨_, rfl, rfl⟩ Z.free_super Z.xno_BadStream_part (fun _ _ _ => ⟨_, rfl⟩), ?_⟩, Z.glo_BadStream⟩
  obtain ⟨oc, od, kV, doc, pm, an, cda, ct, osl, cc, cl, cld, csl, ccl, cdd, vs, ccs, file, tf, rfl, _⟩ := F.ex
  exact .all fun us hl => match us, hl with | [_, _], _ => rfl
theorem xmk_BadText {X : Cx} (Z : Fx X.prog X.w X.K X.mg) : XMk X "BadText" "BadText" ["line", "word"] := by
  obtain ⟨⟨fd, F, _⟩, hi, ti⟩ := Z.xf_BadText
  refine ⟨⟨_, fd, ["self", "line", "word"], F.ox, hi, ti, xfn2 (⟨rfl, rfl, rfl, by decide +kernel, by decide +kernel, by decide +kernel, rfl, rfl⟩) rfl F ⟨_, rfl, rfl⟩ Z.free_super Z.xno_BadText_line Z.xno_BadText_word (fun _ _ _ => ⟨_, rfl⟩), ?_⟩, Z.glo_BadText⟩
  obtain ⟨oc, od, kV, doc, pm, an, cda, ct, osl, cc, cl, cld, csl, ccl, cdd, vs, ccs, file, tf, rfl, _⟩ := F.ex
  exact .all fun us hl => match us, hl with | [_, _, _], _ => rfl
theorem xmkH_BadText {X : Cx} (Z : Fx X.prog X.w X.K X.mg) : XMkH X "BadText" "BadText" ["line", "word"] := by
  obtain ⟨⟨fd, F, _⟩, hi, ti⟩ := Z.xf_BadText
  refine ⟨⟨_, fd, ["self", "line", "word"], F.ox, hi, ti, xfn2H (⟨rfl, rfl, rfl, by decide +kernel, by decide +kernel, by decide +kernel, rfl, rfl⟩) rfl F ⟨_, rfl, rfl⟩ Z.free_super Z.xno_BadText_line Z.xno_BadText_word (fun _ _ _ => ⟨_, rfl⟩), ?_⟩, Z.glo_BadText⟩
  obtain ⟨oc, od, kV, doc, pm, an, cda, ct, osl, cc, cl, cld, csl, ccl, cdd, vs, ccs, file, tf, rfl, _⟩ := F.ex
  exact .all fun us hl => match us, hl with | [_, _, _], _ => rfl
section
variable [kd : KdC]
theorem sc_Packet___eq__ : FnScope N_Packet___eq__ ["self", "other"] (defScope s_Packet___eq__) := ⟨rfl, rfl, rfl, by decide +kernel, rfl, by decide +kernel, by decide +kernel⟩
theorem w_Packet___eq__ (Z : Fx P w K mg) {f : Addr} {cdv : Value} {A : Around} {outer : List Env} {s : Shared} {H : Hp} {E : XK} (cx : Ctx P w K mg base N_Packet___eq__ (defScope s_Packet___eq__) 0 (cxOf (cxk P w) P w K mg base N_Packet___eq__ "Packet.__eq__" (defScope s_Packet___eq__) f cdv A outer s H E) E) :
    ∃ ts, ASs K (cxOf (cxk P w) P w K mg base N_Packet___eq__ "Packet.__eq__" (defScope s_Packet___eq__) f cdv A outer s H E) E (defBody s_Packet___eq__) ts g_Packet___eq__ := ⟨_, (ass_one (as_ret (ae_and (ae_isi Z.isf (tab_ok_Packet Z) (.own _) Z.free_isinstance (av 1) (pe_glob rfl Z.glo_Packet rfl)) (ae_and (ae_cmp op_eq od_eqS (ae_fld (i := 0) (av 0) Z.cls_Packet Z.noat_Packet_tick) (ae_fld (i := 0) (av 1) Z.cls_Packet Z.noat_Packet_tick) (nomark _)) (ae_one (ae_cmp (op_eqD (by exact un64 cx.room)) od_eqD (ae_fld (i := 1) (av 0) Z.cls_Packet Z.noat_Packet_parts) (ae_fld (i := 1) (av 1) Z.cls_Packet Z.noat_Packet_parts) (nomark _)))))))⟩
theorem ok_Packet___eq__ (Z : Fx P w K mg) : Mt P w K mg base 1 "Packet" "__eq__" m_Packet___eq__ := by
  obtain ⟨fd, F⟩ := Z.d_Packet___eq__
  exact ⟨⟨⟨fd, ["self", "other"], fn_ok F sc_Packet___eq__ fun cdv A outer s H E cx => w_Packet___eq__ Z cx, F.bindsN fun _ _ _ _ _ _ us hl => match us, hl with | [_, _], _ => rfl⟩, F.kp⟩, Z.cls_Packet, Z.me_Packet___eq__, Z.fi_Packet___eq__⟩
end
section
variable [kd : KdC]
theorem sc_Packet___init__ : FnScope N_Packet___init__ ["self", "tick", "parts"] (defScope s_Packet___init__) := ⟨rfl, rfl, rfl, by decide +kernel, rfl, by decide +kernel, by decide +kernel⟩
theorem w_Packet___init__ (Z : Fx P w K mg) {f : Addr} {cdv : Value} {A : Around} {outer : List Env} {s : Shared} {H : Hp} {E : XK} (cx : Ctx P w K mg base N_Packet___init__ (defScope s_Packet___init__) 0 (cxOf (cxk P w) P w K mg base N_Packet___init__ "Packet.__init__" (defScope s_Packet___init__) f cdv A outer s H E) E) :
    ∃ ts, ASs K (cxOf (cxk P w) P w K mg base N_Packet___init__ "Packet.__init__" (defScope s_Packet___init__) f cdv A outer s H E) E (defBody s_Packet___init__) ts g_Packet___init__ := ⟨_, (ass_cons (as_newF (av 0) (av 1) Z.cls_Packet Z.noat_Packet_tick)
    (ass_one (as_newF (av 0) (av 2) Z.cls_Packet Z.noat_Packet_parts)))⟩
theorem ok_Packet___init__ (Z : Fx P w K mg) : Ok P w K mg base 1 (He.ma K (He.ga K "Packet") "__init__") m_Packet___init__ := by
  obtain ⟨fd, F⟩ := Z.d_Packet___init__
  exact ⟨⟨fd, ["self", "tick", "parts"], fn_ok F sc_Packet___init__ fun cdv A outer s H E cx => w_Packet___init__ Z cx, F.bindsN fun _ _ _ _ _ _ us hl => match us, hl with | [_, _, _], _ => rfl⟩, F.kp⟩
theorem mkc_Packet {X : Cx} {E : XK} (Z : Fx X.prog X.w X.K X.mg) (px : Passes (cxk X.prog X.w) X E) : MkC X 1 E "Packet" "Packet" [] m_Packet___init__ := ⟨⟨_, Z.mk_Packet, (let ⟨_, _, F, hb⟩ := (ok_Packet___init__ (base := X.base) Z).ok; fna_of F hb)⟩, Z.glo_Packet, px⟩
end
section
variable [kd : KdC]
theorem sc__law_draw : FnScope N__law_draw ["_law_pen_here", "_law_many"] (defScope s__law_draw) := ⟨rfl, rfl, rfl, by decide +kernel, rfl, by decide +kernel, by decide +kernel⟩
theorem w__law_draw (Z : Fx P w K mg) {f : Addr} {cdv : Value} {A : Around} {outer : List Env} {s : Shared} {H : Hp} {E : XK} (cx : Ctx P w K mg base N__law_draw (defScope s__law_draw) 0 (cxOf (cxk P w) P w K mg base N__law_draw "_law_draw" (defScope s__law_draw) f cdv A outer s H E) E) :
    ∃ ts, ASs K (cxOf (cxk P w) P w K mg base N__law_draw "_law_draw" (defScope s__law_draw) f cdv A outer s H E) E (defBody s__law_draw) ts g__law_draw := ⟨_, (ass_cons (as_if (at_cmp op_gt od_gt (ae_ix (av 0) ae_int (by intro _ _; rfl)) ae_int (nomark _)) (ass_cons (as_set 2 sc__law_draw.nd (ae_bin op_mod od_mod (ae_ty call_int1 cd_int Z.free_int (aa_cons (ae_ix (av 0) ae_int (by intro _ _; rfl)) aa_nil)) (av 1)))
    (ass_cons (as_asg (ae_bin op_fdiv od_fdiv (ae_ty call_int1 cd_int Z.free_int (aa_cons (ae_ix (av 0) ae_int (by intro _ _; rfl)) aa_nil)) (av 1)) (ag_item (av 0) ae_int))
    (ass_one (as_ret (av 2))))) ass_nil)
    (ass_cons (as_set 3 sc__law_draw.nd (ae_ix (av 0) ae_int (by intro _ _; rfl)))
    (ass_cons (as_asg (ae_bin op_add od_add (av 3) ae_int) (ag_item (av 0) ae_int))
    (ass_cons (as_set 4 sc__law_draw.nd (ae_bin op_add od_add (ae_bin op_mul od_mul ae_int (av 3)) ae_int))
    (ass_cons (as_if (at_cmp (op_neD (by exact un64 cx.room)) od_neD (ae_ix (av 0) ae_int (by intro _ _; rfl)) (ae_lst aa_nil) (nomark _)) (ass_one (as_set 4 sc__law_draw.nd (ae_ix (ae_ix (av 0) ae_int (by intro _ _; rfl)) (ae_bin op_mod od_mod (ae_ty call_int1 cd_int Z.free_int (aa_cons (av 3) aa_nil)) (ae_blt call_len cd_len Z.free_len (aa_cons (ae_ix (av 0) ae_int (by intro _ _; rfl)) aa_nil))) (by intro _ _; rfl)))) ass_nil)
    (ass_cons (as_if (AW.at (aw_and (at_cmp op_lt od_lt (av 3) (ae_blt call_len cd_len Z.free_len (aa_cons (ae_ix (av 0) ae_int (by intro _ _; rfl)) aa_nil)) (nomark _)) (aw_and1 (at_cmp op_ge od_ge (ae_blt call_abs cd_abs Z.free_abs (aa_cons (av 4) aa_nil)) (ae_bin op_pow od_pow ae_int ae_int) (nomark _))))) (ass_cons (as_set 5 sc__law_draw.nd (ae_bin op_add od_add (ae_bin op_mul od_mul ae_int (ae_bin op_sub od_sub (ae_blt call_abs cd_abs Z.free_abs (aa_cons (av 4) aa_nil)) (ae_bin op_pow od_pow ae_int ae_int))) (ae_ty call_int1 cd_int Z.free_int (aa_cons (ae_cmp op_lt od_lt (av 4) ae_int (nomark _)) aa_nil))))
    (ass_cons (as_asg (ae_bin op_fdiv od_fdiv (ae_ty call_int1 cd_int Z.free_int (aa_cons (av 5) aa_nil)) (av 1)) (ag_item (av 0) ae_int))
    (ass_one (as_ret (ae_bin op_mod od_mod (ae_ty call_int1 cd_int Z.free_int (aa_cons (av 5) aa_nil)) (av 1)))))) ass_nil)
    (ass_cons (as_set 6 sc__law_draw.nd (ae_bin op_mod od_mod (ae_ty call_int1 cd_int Z.free_int (aa_cons (ae_bin op_pow od_pow (ae_bin op_add od_add (ae_bin op_add od_add (ae_bin op_mod od_mod (ae_ty call_int1 cd_int Z.free_int (aa_cons (av 4) aa_nil)) ae_int) (ae_bin op_mul od_mul ae_int (av 3))) ae_int) ae_int) aa_nil)) ae_int))
    (ass_cons (as_set 6 sc__law_draw.nd (ae_bin op_mod od_mod (ae_ty call_int1 cd_int Z.free_int (aa_cons (ae_bin op_pow od_pow (ae_bin op_add od_add (ae_bin op_add od_add (ae_bin op_mul od_mul (av 6) (ae_bin op_add od_add (ae_bin op_mul od_mul ae_int (av 3)) ae_int)) (ae_bin op_mul od_mul (ae_bin op_mul od_mul ae_int (av 3)) (av 3))) ae_int) ae_int) aa_nil)) ae_int))
    (ass_one (as_ret (ae_bin op_mod od_mod (ae_ty call_int1 cd_int Z.free_int (aa_cons (ae_bin op_fdiv od_fdiv (av 6) ae_int) aa_nil)) (av 1))))))))))))⟩
theorem ok__law_draw (Z : Fx P w K mg) : Ok P w K mg base 1 (He.ga K "_law_draw") m__law_draw := by
  obtain ⟨fd, F⟩ := Z.d__law_draw
  exact ⟨⟨fd, ["_law_pen_here", "_law_many"], fn_ok F sc__law_draw fun cdv A outer s H E cx => w__law_draw Z cx, F.bindsN fun _ _ _ _ _ _ us hl => match us, hl with | [_, _], _ => rfl⟩, F.kp⟩
end
section
variable [kd : KdC]
theorem sc__law_pick : FnScope N__law_pick ["_law_pen_here", "_law_some"] (defScope s__law_pick) := ⟨rfl, rfl, rfl, by decide +kernel, rfl, by decide +kernel, by decide +kernel⟩
theorem w__law_pick (Z : Fx P w K mg) {f : Addr} {cdv : Value} {A : Around} {outer : List Env} {s : Shared} {H : Hp} {E : XK} (cx : Ctx P w K mg base N__law_pick (defScope s__law_pick) 1 (cxOf (cxk P w) P w K mg base N__law_pick "_law_pick" (defScope s__law_pick) f cdv A outer s H E) E) :
    ∃ ts, ASs K (cxOf (cxk P w) P w K mg base N__law_pick "_law_pick" (defScope s__law_pick) f cdv A outer s H E) E (defBody s__law_pick) ts g__law_pick := ⟨_, (ass_one (as_ret (ae_ix (av 1) (ae_call (cal_of (ok__law_draw Z) Z.glo__law_draw) (cx.room.mono (by decide)) cx.px (aa_cons (av 0) (aa_cons (ae_blt call_len cd_len Z.free_len (aa_cons (av 1) aa_nil)) aa_nil))) (by intro _ _; rfl))))⟩
theorem ok__law_pick (Z : Fx P w K mg) : Ok P w K mg base 2 (He.ga K "_law_pick") m__law_pick := by
  obtain ⟨fd, F⟩ := Z.d__law_pick
  exact ⟨⟨fd, ["_law_pen_here", "_law_some"], fn_ok F sc__law_pick fun cdv A outer s H E cx => w__law_pick Z cx, F.bindsN fun _ _ _ _ _ _ us hl => match us, hl with | [_, _], _ => rfl⟩, F.kp⟩
end
section
variable [kd : KdC]
theorem sc__law_bent : FnScope N__law_bent ["_law_pen_here", "_law_page"] (defScope s__law_bent) := ⟨rfl, rfl, rfl, by decide +kernel, rfl, by decide +kernel, by decide +kernel⟩
theorem w__law_bent (Z : Fx P w K mg) {f : Addr} {cdv : Value} {A : Around} {outer : List Env} {s : Shared} {H : Hp} {E : XK} (cx : Ctx P w K mg base N__law_bent (defScope s__law_bent) 2 (cxOf (cxk P w) P w K mg base N__law_bent "_law_bent" (defScope s__law_bent) f cdv A outer s H E) E) :
    ∃ ts, ASs K (cxOf (cxk P w) P w K mg base N__law_bent "_law_bent" (defScope s__law_bent) f cdv A outer s H E) E (defBody s__law_bent) ts g__law_bent := ⟨_, (ass_cons (as_par 2 3 sc__law_bent.nd (aa_cons (ae_bm F.plainAttrs_str F.slot_str_split F.type_str_split mt_split md_splitM (av 1) (aa_cons ae_str aa_nil)) (aa_cons (ae_call (cal_of (ok__law_draw Z) Z.glo__law_draw) (cx.room.mono (by decide)) cx.px (aa_cons (av 0) (aa_cons ae_int aa_nil))) aa_nil)))
    (ass_cons (as_set 4 sc__law_bent.nd (ae_call (cal_of (ok__law_draw Z) Z.glo__law_draw) (cx.room.mono (by decide)) cx.px (aa_cons (av 0) (aa_cons (ae_blt call_len cd_len Z.free_len (aa_cons (av 2) aa_nil)) aa_nil))))
    (ass_cons (as_set 5 sc__law_bent.nd (ae_bm F.plainAttrs_str F.slot_str_split F.type_str_split mt_split md_split (ae_ix (av 2) (av 4) (by intro _ _; rfl)) (aa_cons ae_str aa_nil)))
    (ass_cons (as_set 6 sc__law_bent.nd (ae_call (cal_of (ok__law_draw Z) Z.glo__law_draw) (cx.room.mono (by decide)) cx.px (aa_cons (av 0) (aa_cons (ae_blt call_len cd_len Z.free_len (aa_cons (av 5) aa_nil)) aa_nil))))
    (ass_cons (as_set 7 sc__law_bent.nd (ae_call (cal_of (ok__law_pick Z) Z.glo__law_pick) (cx.room.mono (by decide)) cx.px (aa_cons (av 0) (aa_cons (ae_lst (aa_cons ae_str (aa_cons ae_str (aa_cons ae_str (aa_cons ae_str (aa_cons ae_str (aa_cons ae_str (aa_cons ae_str (aa_cons ae_str (aa_cons ae_str (aa_cons ae_str (aa_cons ae_str aa_nil)))))))))))) aa_nil))))
    (ass_cons (as_if (at_cmp op_eq od_eqS (av 3) ae_int (nomark _)) (ass_one (as_asg (ae_bm F.plainAttrs_str F.slot_str_join F.type_str_join mt_join md_join ae_str (aa_cons (ae_bin op_cat od_cat (ae_bin op_cat od_cat (ae_slice (av 5) ao_none (ao_some (av 6))) (ae_lst (aa_cons (av 7) aa_nil))) (ae_slice (av 5) (ao_some (ae_bin op_add od_add (av 6) ae_int)) ao_none)) aa_nil)) (ag_item (av 2) (av 4)))) ass_nil)
    (ass_cons (as_if (at_cmp op_eq od_eqS (av 3) ae_int (nomark _)) (ass_one (as_asg (ae_bm F.plainAttrs_str F.slot_str_join F.type_str_join mt_join md_join ae_str (aa_cons (ae_bin op_cat od_cat (ae_bin op_cat od_cat (ae_slice (av 5) ao_none (ao_some (av 6))) (ae_lst (aa_cons (av 7) aa_nil))) (ae_slice (av 5) (ao_some (av 6)) ao_none)) aa_nil)) (ag_item (av 2) (av 4)))) ass_nil)
    (ass_cons (as_if (at_cmp op_eq od_eqS (av 3) ae_int (nomark _)) (ass_one (as_asg (ae_bm F.plainAttrs_str F.slot_str_join F.type_str_join mt_join md_join ae_str (aa_cons (ae_bin op_cat od_cat (ae_slice (av 5) ao_none (ao_some (av 6))) (ae_slice (av 5) (ao_some (ae_bin op_add od_add (av 6) ae_int)) ao_none)) aa_nil)) (ag_item (av 2) (av 4)))) ass_nil)
    (ass_cons (as_if (at_cmp op_eq od_eqS (av 3) ae_int (nomark _)) (ass_one (as_set 2 sc__law_bent.nd (ae_bin op_cat od_cat (ae_bin op_cat od_cat (ae_slice (av 2) ao_none (ao_some (ae_bin op_add od_add (av 4) ae_int))) (ae_lst (aa_cons (av 7) aa_nil))) (ae_slice (av 2) (ao_some (ae_bin op_add od_add (av 4) ae_int)) ao_none)))) ass_nil)
    (ass_cons (as_if (at_cmp op_eq od_eqS (av 3) ae_int (nomark _)) (ass_one (as_set 2 sc__law_bent.nd (ae_bin op_cat od_cat (ae_slice (av 2) ao_none (ao_some (av 4))) (ae_slice (av 2) (ao_some (ae_bin op_add od_add (av 4) ae_int)) ao_none)))) ass_nil)
    (ass_cons (as_if (at_cmp op_eq od_eqS (av 3) ae_int (nomark _)) (ass_one (as_asg (ae_bin op_add_str od_addS (ae_bin op_add_str od_addS (ae_ix (av 2) (av 4) (by intro _ _; rfl)) ae_str) (av 7)) (ag_item (av 2) (av 4)))) ass_nil)
    (ass_one (as_ret (ae_bm F.plainAttrs_str F.slot_str_join F.type_str_join mt_join md_join ae_str (aa_cons (av 2) aa_nil)))))))))))))))⟩
theorem ok__law_bent (Z : Fx P w K mg) : Ok P w K mg base 3 (He.ga K "_law_bent") m__law_bent := by
  obtain ⟨fd, F⟩ := Z.d__law_bent
  exact ⟨⟨fd, ["_law_pen_here", "_law_page"], fn_ok F sc__law_bent fun cdv A outer s H E cx => w__law_bent Z cx, F.bindsN fun _ _ _ _ _ _ us hl => match us, hl with | [_, _], _ => rfl⟩, F.kp⟩
end
section
variable [kd : KdC]
theorem sc_counted : FnScope N_counted ["words", "spot"] (defScope s_counted) := ⟨rfl, rfl, rfl, by decide +kernel, rfl, by decide +kernel, by decide +kernel⟩
theorem w_counted (Z : Fx P w K mg) {f : Addr} {cdv : Value} {A : Around} {outer : List Env} {s : Shared} {H : Hp} {E : XK} (cx : Ctx P w K mg base N_counted (defScope s_counted) 3 (cxOf (cxk P w) P w K mg base N_counted "counted" (defScope s_counted) f cdv A outer s H E) E) :
    ∃ ts, ASs K (cxOf (cxk P w) P w K mg base N_counted "counted" (defScope s_counted) f cdv A outer s H E) E (defBody s_counted) ts g_counted := ⟨_, (ass_cons (as_set 2 sc_counted.nd (ae_if (at_cmp op_lt od_lt (av 1) (ae_blt call_len cd_len Z.free_len (aa_cons (av 0) aa_nil)) (nomark _)) (ae_ix (av 0) (av 1) (by intro _ _; rfl)) ae_str))
    (ass_cons (as_if (AW.at (aw_or (at_cmp op_eq od_eqS (av 2) ae_str (nomark _)) (aw_or (at_not (at_val (ae_blt (cr_all rfl) cd_all Z.free_all (aa_cons (ae_lc (own := [("figure", 3)]) sc_counted.nd (ai_str (av 2)) rfl (fun s H C cl fp => (ag_name 3 sc_counted.nd)) (fun s H C cl fp => ats_nil) (fun s H C cl fp => (ae_cmp op_in_str od_inStr (av 3) ae_str rfl))) aa_nil)))) (aw_or1 (AW.at (aw_and (at_cmp op_eq od_eqS (ae_ix (av 2) ae_int (by intro _ _; rfl)) ae_str (nomark _)) (aw_and1 (at_cmp op_gt od_gt (ae_blt call_len cd_len Z.free_len (aa_cons (av 2) aa_nil)) ae_int (nomark _))))))))) (ass_one (as_raise (xmk_BadText Z) (cx.room.mono (by decide)) cx.tk (aa_cons ae_int (aa_cons (av 1) aa_nil)))) ass_nil)
    (ass_one (as_ret (ae_ty call_int_str cd_intS Z.free_int (aa_cons (av 2) aa_nil))))))⟩
theorem ok_counted (Z : Fx P w K mg) : Ok P w K mg base 4 (He.ga K "counted") m_counted := by
  obtain ⟨fd, F⟩ := Z.d_counted
  exact ⟨⟨fd, ["words", "spot"], fn_ok F sc_counted fun cdv A outer s H E cx => w_counted Z cx, F.bindsN fun _ _ _ _ _ _ us hl => match us, hl with | [_, _], _ => rfl⟩, F.kp⟩
end
section
variable [kd : KdC]
theorem sc_Packet_read : FnScope N_Packet_read ["cls", "text"] (defScope s_Packet_read) := ⟨rfl, rfl, rfl, by decide +kernel, rfl, by decide +kernel, by decide +kernel⟩
theorem w_Packet_read (Z : Fx P w K mg) {f : Addr} {cdv : Value} {A : Around} {outer : List Env} {s : Shared} {H : Hp} {E : XK} (cx : Ctx P w K mg base N_Packet_read (defScope s_Packet_read) 4 (cxOf (cxk P w) P w K mg base N_Packet_read "Packet.read" (defScope s_Packet_read) f cdv A outer s H E) E) :
    ∃ ts, ASs K (cxOf (cxk P w) P w K mg base N_Packet_read "Packet.read" (defScope s_Packet_read) f cdv A outer s H E) E (defBody s_Packet_read) ts g_Packet_read := ⟨_, (ass_cons (as_set 2 sc_Packet_read.nd (ae_if (at_val (ae_isi Z.isf (tab_ok_str Z) (.ty _) Z.free_isinstance (av 1) (pe_bltn (v := .ty "str") (u := .type "str") rfl Z.free_str rfl rfl))) (ae_bm F.plainAttrs_str F.slot_str_split F.type_str_split mt_split md_split (av 1) (aa_cons ae_str aa_nil)) (ae_lst (aa_cons ae_str aa_nil))))
    (ass_cons (as_set 3 sc_Packet_read.nd (ae_call (cal_of (ok_counted Z) Z.glo_counted) (cx.room.mono (by decide)) cx.px (aa_cons (av 2) (aa_cons ae_int aa_nil))))
    (ass_cons (as_if (AW.at (aw_or (at_cmp op_lt od_lt (ae_blt call_len cd_len Z.free_len (aa_cons (av 2) aa_nil)) ae_int (nomark _)) (aw_or1 (at_cmp op_ne od_neS (ae_ix (av 2) ae_int (by intro _ _; rfl)) ae_str (nomark _))))) (ass_one (as_raise (xmk_BadText Z) (cx.room.mono (by decide)) cx.tk (aa_cons ae_int (aa_cons ae_int aa_nil)))) ass_nil)
    (ass_cons (as_if (AW.at (aw_and (at_cmp op_gt od_gt (ae_blt call_len cd_len Z.free_len (aa_cons (av 2) aa_nil)) ae_int (nomark _)) (aw_and1 (at_cmp op_eq od_eqS (ae_ix (av 2) ae_int (by intro _ _; rfl)) ae_str (nomark _))))) (ass_cons (as_if (at_cmp op_gt od_gt (ae_blt call_len cd_len Z.free_len (aa_cons (av 2) aa_nil)) ae_int (nomark _)) (ass_one (as_raise (xmk_BadText Z) (cx.room.mono (by decide)) cx.tk (aa_cons ae_int (aa_cons ae_int aa_nil)))) ass_nil)
    (ass_one (as_ret (ae_mk (kp := false) (mkc_Packet Z cx.px) (cx.room.mono (by decide)) (aa_cons (av 3) (aa_cons (ae_tup aa_nil) aa_nil)) ak_nil (fun _ _ _ _ h => by cases h; rfl))))) ass_nil)
    (ass_cons (as_set 4 sc_Packet_read.nd (ae_lstM (aa_cons (ae_call (cal_of (ok_counted Z) Z.glo_counted) (cx.room.mono (by decide)) cx.px (aa_cons (av 2) (aa_cons ae_int aa_nil))) aa_nil)))
    (ass_cons (as_for cx.own (ai_range2 rfl Z.free_range (aa_cons ae_int (aa_cons (ae_blt call_len cd_len Z.free_len (aa_cons (av 2) aa_nil)) aa_nil))) (ag_name 5 sc_Packet_read.nd) (ass_one (as_expr (ae_bm F.plainAttrs_list F.slot_list_append F.type_list_append mt_append md_append (av 4) (aa_cons (ae_call (cal_of (ok_counted Z) Z.glo_counted) (cx.room.mono (by decide)) cx.px (aa_cons (av 2) (aa_cons (av 5) aa_nil))) aa_nil)))))
    (ass_one (as_ret (ae_mk (kp := false) (mkc_Packet Z cx.px) (cx.room.mono (by decide)) (aa_cons (av 3) (aa_cons (ae_ty call_tuple_of cd_tuple Z.free_tuple (aa_cons (av 4) aa_nil)) aa_nil)) ak_nil (fun _ _ _ _ h => by cases h; rfl))))))))))⟩
theorem ok_Packet_read (Z : Fx P w K mg) : Ok P w K mg base 5 (cmA K "Packet" "read") m_Packet_read := by
  obtain ⟨fd, F⟩ := Z.d_Packet_read
  exact ⟨⟨fd, ["cls", "text"], fn_ok F sc_Packet_read fun cdv A outer s H E cx => w_Packet_read Z cx, F.bindsN fun _ _ _ _ _ _ us hl => match us, hl with | [_, _], _ => rfl⟩, F.kp⟩
end
theorem sc__law_heard : FnScope N__law_heard ["_law_ask"] (defScope s__law_heard) := ⟨rfl, rfl, rfl, by decide +kernel, rfl, by decide +kernel, by decide +kernel⟩
structure RmO (X : Cx) : Prop where
  room : Room 0 X.A
theorem h_heard (Z : Fx P w K mg) : ∃ ts, ∀ (A : Around) (outer : List Env) (cdg : Value) (s : Shared) (H : Hp), A.guards = some [] → Room 1 A → ASs K (cxOf C8.CX0 P w K mg base N__law_heard "_law_heard" (defScope s__law_heard) (He.ga K "_law_heard") cdg A outer s H C8.E0).nox C8.E0 ((defBody s__law_heard).drop 2) ts g__law_heard := ⟨_, fun A outer cdg s H gd0 hr => have gd : (cxOf C8.CX0 P w K mg base N__law_heard "_law_heard" (defScope s__law_heard) (He.ga K "_law_heard") cdg A outer s H C8.E0).nox.A.guards = some [] := gd0; have cx : RmO (cxOf C8.CX0 P w K mg base N__law_heard "_law_heard" (defScope s__law_heard) (He.ga K "_law_heard") cdg A outer s H C8.E0).nox := ⟨hr.deeper _⟩; (ass_cons (as_if (at_val (ae_blt call_isX (cd_isX (isx_BadStream Z)) Z.free_isinstance (aa_cons (av 1) (aa_cons (ae_clsN Z.glo_BadStream) aa_nil)))) (ass_one (as_ret (ae_tup (aa_cons ae_str (aa_cons (ae_xf (xft_part Z) (av 1)) aa_nil))))) ass_nil)
    (ass_one (as_ret (ae_if (at_val (ae_blt call_isX (cd_isX (isx_BadText Z)) Z.free_isinstance (aa_cons (av 1) (aa_cons (ae_clsN Z.glo_BadText) aa_nil)))) (ae_tup (aa_cons ae_str (aa_cons (ae_blt (call_reprA gd (by exact un65 cx.room)) cd_reprA Z.free_repr (aa_cons (ae_xf (xft_line Z) (av 1)) aa_nil)) (aa_cons (ae_blt (call_reprA gd (by exact un65 cx.room)) cd_reprA Z.free_repr (aa_cons (ae_xf (xft_word Z) (av 1)) aa_nil)) aa_nil)))) (ae_tup (aa_cons ae_str aa_nil))))))⟩
theorem aeh {X : Cx} {E : XK} {k : Nat} {maker : Str} {c P0 : Addr} {params : Arguments} {body : Expr} {scope : Scope} {p lpos pos : Pos} {el : Se} (Z : Fx X.prog X.w X.K X.mg) (gd : X.A.guards = some []) (TB : ∀ p ∈ csK X.K, LamX.TabB X.base X.mg p.1 p.2) (ht : PySem.W.tabIn X.K maker = some (c, P0)) (hr : Room (k + 2) X.A) (L : LamX.LamS X.env.scope scope)
    (hbody : ∀ E : XK, ∃ te, ∀ (A : Around) (outer : List Env) (s : Shared) (H : Hp) (f c' : Addr), A.guards = X.A.guards → Room k (A.deeper (LamX.lamEnv X scope s.heap.objs.size f c')) → AE X.K (LamX.lamCx X A outer s H E scope f c') E body te el)
    (hq : X.env.qual ++ "<lambda>" = maker ++ ".<locals>." ++ "<lambda>" := by rfl) (hm : maker ∈ lamNames := by decide) (hcode : X.env.code = .ref c := by rfl) (hg : Gl X "_law_heard" := by rfl) (hdef : defaultsOf params X.env = ([], []) := by rfl)
    (hbind : ∀ (q : Str) (cl : List (Str × Addr)) (pm cv ctv : Value), bindArgs (PySem.W.kla_fn "<lambda>" q params body scope cl pm cv ctv) ⟨[], []⟩ = pure [] := by intros; rfl) :
    AE X.K X E (.Call (.Name "_law_heard" p) [.Lambda params body scope lpos] [] pos) (LamX.tLam (tabsK X.K) (TH X.K (.ref (He.ga X.K "RepairError")) N__law_heard (Classical.choose (h_heard (base := X.base) Z))) fun E => Classical.choose (hbody E)) (sAsk m__law_heard el) := by
  obtain ⟨fd, F⟩ := Z.d__law_heard
  have cs := Classical.choose_spec (h_heard (base := X.base) Z)
  refine ae_asks (cat := xcat) (gr := g__law_heard) F (F.bindsN fun _ _ _ _ _ _ us hl => match us, hl with | [_], _ => rfl) sc__law_heard Z.glo__law_heard (by decide) rfl (.inl rfl)
    (fun cdg => asks_of (hrest := fun s H => (cs X.A X.stack cdg s H gd (hr.mono (by omega))).pe) sc__law_heard.nd rfl rfl rfl rfl rfl rfl Z.glo_RepairError rfl)
    (cs X.A X.stack .none X.s_0 X.H_0 gd (hr.mono (by omega))).ev (cat_of Z.cat) (TB (c, P0) (List.mem_filterMap.mpr ⟨maker, hm, ht⟩)) hcode ?_ (fun p hp e => ?_) hr L hbody hg hdef hbind
  · rw [hq]
    exact List.mem_filterMap.mpr ⟨maker, hm, by rw [ht]; rfl⟩
  · rw [hq]
    exact tabU_of Z.tabU p hp (P0, maker ++ ".<locals>." ++ "<lambda>") (List.mem_filterMap.mpr ⟨maker, hm, by rw [ht]; rfl⟩) e
theorem sc__law_due : FnScope N__law_due ["_law_page"] (defScope s__law_due) := ⟨rfl, rfl, rfl, by decide +kernel, rfl, by decide +kernel, by decide +kernel⟩
theorem w__law_due (Z : Fx P w K mg) (TB : ∀ p ∈ csK K, LamX.TabB base mg p.1 p.2) {c P0 : Addr} (ht : PySem.W.tabIn K "_law_due" = some (c, P0)) {f : Addr} {A : Around} {outer : List Env} {s : Shared} {H : Hp} {E : XK} (cx : Ctx P w K mg base N__law_due (defScope s__law_due) 7 (cxOf (cxk P w) P w K mg base N__law_due "_law_due" (defScope s__law_due) f (.ref c) A outer s H E) E) (gd : (cxOf (cxk P w) P w K mg base N__law_due "_law_due" (defScope s__law_due) f (.ref c) A outer s H E).A.guards = some []) :
    ∃ ts, ASs K (cxOf (cxk P w) P w K mg base N__law_due "_law_due" (defScope s__law_due) f (.ref c) A outer s H E) E (defBody s__law_due) ts g__law_due := ⟨_, (ass_cons (as_set 1 sc__law_due.nd (ae_bm F.plainAttrs_str F.slot_str_split F.type_str_split mt_split md_split (av 0) (aa_cons ae_str aa_nil)))
    (ass_cons (as_if (at_cmp op_eq od_eqS (ae_ix (ae_bm F.plainAttrs_str F.slot_str_split F.type_str_split mt_split md_split (ae_ix (av 1) ae_int (by intro _ _; rfl)) (aa_cons ae_str aa_nil)) ae_int (by intro _ _; rfl)) ae_str (nomark _)) (ass_cons (as_if (at_cmp op_ne od_neS (ae_ix (av 1) ae_int (by intro _ _; rfl)) ae_str (nomark _)) (ass_one (as_ret (ae_tup (aa_cons ae_str (aa_cons ae_str (aa_cons ae_str aa_nil)))))) ass_nil)
    (ass_one (as_ret (ae_if (at_cmp op_eq od_eqS (ae_blt call_len cd_len Z.free_len (aa_cons (av 1) aa_nil)) ae_int (nomark _)) ae_non (ae_tup (aa_cons ae_str (aa_cons ae_str (aa_cons ae_str aa_nil)))))))) ass_nil)
    (ass_cons (as_for cx.own (ai_range1 rfl Z.free_range (aa_cons (ae_blt call_len cd_len Z.free_len (aa_cons (av 1) aa_nil)) aa_nil)) (ag_name 2 sc__law_due.nd) (ass_cons (as_set 3 sc__law_due.nd (ae_ix (av 1) (av 2) (by intro _ _; rfl)))
    (ass_cons (as_set 4 sc__law_due.nd (aeh Z gd (k := 5) TB ht (cx.room.mono (by decide)) (LamX.lamS_by (sc := defScope s__law_due) (by decide +kernel)) (fun E => ⟨_, fun A outer s H f c2 ga hr => have cx := RL.ctx_lam (N := N__law_due) hr; (ae_cm (cmc (ok_Packet_read Z) Z.cm_Packet_read Z.glo_Packet cx.px) (cx.room.mono (by decide)) (aa_cons (av 3) aa_nil))⟩)))
    (ass_one (as_if (at_not (at_val (ae_isi Z.isf (tab_ok_list Z) (.ty _) Z.free_isinstance (av 4) (pe_bltn (v := .ty "list") (u := .type "list") rfl Z.free_list rfl rfl)))) (ass_one (as_ret (ae_if (at_cmp op_eq od_eqS (ae_blt call_len cd_len Z.free_len (aa_cons (av 4) aa_nil)) ae_int (nomark _)) (ae_tup (aa_cons ae_str (aa_cons (ae_ty call_str_int cd_str Z.free_str (aa_cons (av 2) aa_nil)) (aa_cons (ae_ix (av 4) ae_int (by intro _ _; rfl)) aa_nil)))) (ae_tup (aa_cons ae_str aa_nil))))) ass_nil)))))
    (ass_one (as_ret ae_non)))))⟩
theorem ok__law_due (Z : Fx P w K mg) (TB : ∀ p ∈ csK K, LamX.TabB base mg p.1 p.2) : FnG P w K mg base 8 (He.ga K "_law_due") m__law_due ∧ PySem.W.keepIn K (.ref (He.ga K "_law_due")) = true := by
  obtain ⟨fd, F⟩ := Z.d__law_due
  obtain ⟨c, P0, ht, hcode⟩ := lamAt_of Z.lam__law_due
  obtain ⟨oc, od, dV, kV, doc, pm, an, cdv, ct, osl, e1, lk, _⟩ := id F.ex
  exact ⟨fng_ofL F sc__law_due (F.bindsN (ps := ["_law_page"]) fun _ _ _ _ _ _ us hl => match us, hl with | [_], _ => rfl) (hcode _ _ _ _ lk) fun A outer s H E cx gd => w__law_due Z TB ht cx gd, F.kp⟩
section
variable [kd : KdC]
theorem sc_Packet___str__ : FnScope N_Packet___str__ ["self"] (defScope s_Packet___str__) := ⟨rfl, rfl, rfl, by decide +kernel, rfl, by decide +kernel, by decide +kernel⟩
theorem w_Packet___str__ (Z : Fx P w K mg) {f : Addr} {cdv : Value} {A : Around} {outer : List Env} {s : Shared} {H : Hp} {E : XK} (cx : Ctx P w K mg base N_Packet___str__ (defScope s_Packet___str__) 0 (cxOf (cxk P w) P w K mg base N_Packet___str__ "Packet.__str__" (defScope s_Packet___str__) f cdv A outer s H E) E) :
    ∃ ts, ASs K (cxOf (cxk P w) P w K mg base N_Packet___str__ "Packet.__str__" (defScope s_Packet___str__) f cdv A outer s H E) E (defBody s_Packet___str__) ts g_Packet___str__ := ⟨_, (ass_one (as_ret (ae_joined rfl (AJ.cons (ae_fmt (ae_fld (i := 0) (av 0) Z.cls_Packet Z.noat_Packet_tick)) (AJ.cons ae_str (AJ.cons (ae_fmt (ae_orT (ae_bm F.plainAttrs_str F.slot_str_join F.type_str_join mt_join md_join ae_str (aa_cons (ae_lc (own := [("part", 1)]) sc_Packet___str__.nd (ai_tup (ae_fld (i := 1) (av 0) Z.cls_Packet Z.noat_Packet_parts)) rfl (fun s H C cl fp => (ag_name 1 sc_Packet___str__.nd)) (fun s H C cl fp => ats_nil) (fun s H C cl fp => (ae_ty call_str_int cd_str Z.free_str (aa_cons (av 1) aa_nil)))) aa_nil)) (ae_one ae_str))) AJ.nil))))))⟩
theorem ok_Packet___str__ (Z : Fx P w K mg) : Mt P w K mg base 1 "Packet" "__str__" m_Packet___str__ := by
  obtain ⟨fd, F⟩ := Z.d_Packet___str__
  exact ⟨⟨⟨fd, ["self"], fn_ok F sc_Packet___str__ fun cdv A outer s H E cx => w_Packet___str__ Z cx, F.bindsN fun _ _ _ _ _ _ us hl => match us, hl with | [_], _ => rfl⟩, F.kp⟩, Z.cls_Packet, Z.me_Packet___str__, Z.fi_Packet___str__⟩
end
section
variable [kd : KdC]
theorem sc_is_from_nought : FnScope N_is_from_nought ["value"] (defScope s_is_from_nought) := ⟨rfl, rfl, rfl, by decide +kernel, rfl, by decide +kernel, by decide +kernel⟩
theorem w_is_from_nought (Z : Fx P w K mg) {f : Addr} {cdv : Value} {A : Around} {outer : List Env} {s : Shared} {H : Hp} {E : XK} (cx : Ctx P w K mg base N_is_from_nought (defScope s_is_from_nought) 0 (cxOf (cxk P w) P w K mg base N_is_from_nought "is_from_nought" (defScope s_is_from_nought) f cdv A outer s H E) E) :
    ∃ ts, ASs K (cxOf (cxk P w) P w K mg base N_is_from_nought "is_from_nought" (defScope s_is_from_nought) f cdv A outer s H E) E (defBody s_is_from_nought) ts g_is_from_nought := ⟨_, (ass_one (as_ret (ae_and (ae_isi Z.isf (tab_ok_int Z) (.ty _) Z.free_isinstance (av 0) (pe_bltn (v := .ty "int") (u := .type "int") rfl Z.free_int rfl rfl)) (ae_and (ae_not (ae_isi Z.isf (tab_ok_bool Z) (.ty _) Z.free_isinstance (av 0) (pe_bltn (v := .ty "bool") (u := .type "bool") rfl Z.free_bool rfl rfl))) (ae_one (ae_cmp op_ge od_ge (av 0) ae_int (nomark _)))))))⟩
theorem ok_is_from_nought (Z : Fx P w K mg) : Ok P w K mg base 1 (He.ga K "is_from_nought") m_is_from_nought := by
  obtain ⟨fd, F⟩ := Z.d_is_from_nought
  exact ⟨⟨fd, ["value"], fn_ok F sc_is_from_nought fun cdv A outer s H E cx => w_is_from_nought Z cx, F.bindsN fun _ _ _ _ _ _ us hl => match us, hl with | [_], _ => rfl⟩, F.kp⟩
end
section
variable [kd : KdC]
theorem sc_is_packet : FnScope N_is_packet ["value"] (defScope s_is_packet) := ⟨rfl, rfl, rfl, by decide +kernel, rfl, by decide +kernel, by decide +kernel⟩
theorem w_is_packet (Z : Fx P w K mg) {f : Addr} {cdv : Value} {A : Around} {outer : List Env} {s : Shared} {H : Hp} {E : XK} (cx : Ctx P w K mg base N_is_packet (defScope s_is_packet) 1 (cxOf (cxk P w) P w K mg base N_is_packet "is_packet" (defScope s_is_packet) f cdv A outer s H E) E) :
    ∃ ts, ASs K (cxOf (cxk P w) P w K mg base N_is_packet "is_packet" (defScope s_is_packet) f cdv A outer s H E) E (defBody s_is_packet) ts g_is_packet := ⟨_, (ass_cons (as_if (AW.at (aw_or (at_not (at_val (ae_isi Z.isf (tab_ok_Packet Z) (.own _) Z.free_isinstance (av 0) (pe_glob rfl Z.glo_Packet rfl)))) (aw_or (at_not (at_val (ae_call (cal_of (ok_is_from_nought Z) Z.glo_is_from_nought) (cx.room.mono (by decide)) cx.px (aa_cons (ae_fld (i := 0) (av 0) Z.cls_Packet Z.noat_Packet_tick) aa_nil)))) (aw_or1 (at_not (at_val (ae_isi Z.isf (tab_ok_tuple Z) (.ty _) Z.free_isinstance (ae_fld (i := 1) (av 0) Z.cls_Packet Z.noat_Packet_parts) (pe_bltn (v := .ty "tuple") (u := .type "tuple") rfl Z.free_tuple rfl rfl)))))))) (ass_one (as_ret ae_bl)) ass_nil)
    (ass_one (as_ret (ae_blt (cr_all rfl) cd_all Z.free_all (aa_cons (ae_lc (own := [("number", 1)]) sc_is_packet.nd (ai_tup (ae_fld (i := 1) (av 0) Z.cls_Packet Z.noat_Packet_parts)) rfl (fun s H C cl fp => (ag_name 1 sc_is_packet.nd)) (fun s H C cl fp => ats_nil) (fun s H C cl fp => (ae_call (cal_of (ok_is_from_nought Z) Z.glo_is_from_nought) (cx.room.mono (by decide)) pass_e0 (aa_cons (av 1) aa_nil)))) aa_nil)))))⟩
theorem ok_is_packet (Z : Fx P w K mg) : Ok P w K mg base 2 (He.ga K "is_packet") m_is_packet := by
  obtain ⟨fd, F⟩ := Z.d_is_packet
  exact ⟨⟨fd, ["value"], fn_ok F sc_is_packet fun cdv A outer s H E cx => w_is_packet Z cx, F.bindsN fun _ _ _ _ _ _ us hl => match us, hl with | [_], _ => rfl⟩, F.kp⟩
end
section
variable [kd : KdC]
theorem sc_packets_text : FnScope N_packets_text ["packets"] (defScope s_packets_text) := ⟨rfl, rfl, rfl, by decide +kernel, rfl, by decide +kernel, by decide +kernel⟩
theorem w_packets_text (Z : Fx P w K mg) {f : Addr} {cdv : Value} {A : Around} {outer : List Env} {s : Shared} {H : Hp} {E : XK} (cx : Ctx P w K mg base N_packets_text (defScope s_packets_text) 3 (cxOf (cxk P w) P w K mg base N_packets_text "packets_text" (defScope s_packets_text) f cdv A outer s H E) E) :
    ∃ ts, ASs K (cxOf (cxk P w) P w K mg base N_packets_text "packets_text" (defScope s_packets_text) f cdv A outer s H E) E (defBody s_packets_text) ts g_packets_text := ⟨_, (ass_cons (as_if (AW.at (aw_or (at_not (at_val (ae_isiT Z.isf (tabT_ok_list_tuple Z) (.cons (.ty _) (.cons (.ty _) .nil)) Z.free_isinstance (av 0) (pa_cons (pe_bltn (v := .ty "list") (u := .type "list") rfl Z.free_list rfl rfl) (pa_cons (pe_bltn (v := .ty "tuple") (u := .type "tuple") rfl Z.free_tuple rfl rfl) pa_nil)) (fun _ _ _ h => h) (by decide)))) (aw_or1 (at_not (at_val (ae_blt (cr_all rfl) cd_all Z.free_all (aa_cons (ae_lc (own := [("packet", 1)]) sc_packets_text.nd (ai_seq (av 0)) rfl (fun s H C cl fp => (ag_name 1 sc_packets_text.nd)) (fun s H C cl fp => ats_nil) (fun s H C cl fp => (ae_call (cal_of (ok_is_packet Z) Z.glo_is_packet) (cx.room.mono (by decide)) pass_e0 (aa_cons (av 1) aa_nil)))) aa_nil))))))) (ass_one (as_raise (xmk_BadStream Z) (cx.room.mono (by decide)) cx.tk (aa_cons ae_str aa_nil))) ass_nil)
    (ass_one (as_ret (ae_if (at_cmp op_gt od_gt (ae_blt call_len cd_len Z.free_len (aa_cons (av 0) aa_nil)) ae_int (nomark _)) (ae_bm F.plainAttrs_str F.slot_str_join F.type_str_join mt_join md_join ae_str (aa_cons (ae_lc (own := [("packet", 1)]) sc_packets_text.nd (ai_seq (av 0)) rfl (fun s H C cl fp => (ag_name 1 sc_packets_text.nd)) (fun s H C cl fp => ats_nil) (fun s H C cl fp => (ae_strO (dun_of (ok_Packet___str__ Z) pass_e0) (Room.in1 (Room.in1 (cx.room.mono (by decide)))) Z.free_str (aa_cons (av 1) aa_nil)))) aa_nil)) ae_str))))⟩
theorem ok_packets_text (Z : Fx P w K mg) : Ok P w K mg base 4 (He.ga K "packets_text") m_packets_text := by
  obtain ⟨fd, F⟩ := Z.d_packets_text
  exact ⟨⟨fd, ["packets"], fn_ok F sc_packets_text fun cdv A outer s H E cx => w_packets_text Z cx, F.bindsN fun _ _ _ _ _ _ us hl => match us, hl with | [_], _ => rfl⟩, F.kp⟩
theorem ka_packets_text_packets (Z : Fx P w K mg) : FnA P w K mg base 4 (He.ga K "packets_text") ["packets"] m_packets_text := by
  obtain ⟨fd, F⟩ := Z.d_packets_text
  obtain ⟨oc, od, dV, kV, doc, pm, an, cdv, ct, osl, e1, lk, hcd, hD, _⟩ := id F.ex
  have e2 : dV = .none := by
    rcases hD with ⟨_, e⟩ | ⟨e, _⟩
    · exact e
    · exact absurd rfl e
  subst e2
  refine fna_kw (ps := ["packets"]) (fn_ok F sc_packets_text fun cdv A outer s H E cx => w_packets_text Z cx) ["packets"] fun s us us2 X h1 h2 => ?_
  subst e1
  have h3 : us.length = 0 := by
    rw [List.length_append, h1] at h2
    simpa using h2
  match us2, h1, us, h3 with
  | [b0], _, [], _ => exact .of_eq rfl
theorem cala_packets_text_packets {X : Cx} {E : XK} (Z : Fx X.prog X.w X.K X.mg) (px : Passes (cxk X.prog X.w) X E) : CalA X 4 E "packets_text" ["packets"] m_packets_text := let ⟨fd, F⟩ := Z.d_packets_text; ⟨⟨_, ka_packets_text_packets Z, Z.glo_packets_text, F.kp⟩, px⟩
end
section
variable [kd : KdC]
theorem sc_lines_of : FnScope N_lines_of ["text"] (defScope s_lines_of) := ⟨rfl, rfl, rfl, by decide +kernel, rfl, by decide +kernel, by decide +kernel⟩
theorem w_lines_of (Z : Fx P w K mg) {f : Addr} {cdv : Value} {A : Around} {outer : List Env} {s : Shared} {H : Hp} {E : XK} (cx : Ctx P w K mg base N_lines_of (defScope s_lines_of) 3 (cxOf (cxk P w) P w K mg base N_lines_of "lines_of" (defScope s_lines_of) f cdv A outer s H E) E) :
    ∃ ts, ASs K (cxOf (cxk P w) P w K mg base N_lines_of "lines_of" (defScope s_lines_of) f cdv A outer s H E) E (defBody s_lines_of) ts g_lines_of := ⟨_, (ass_cons (as_if (at_not (at_val (ae_isi Z.isf (tab_ok_str Z) (.ty _) Z.free_isinstance (av 0) (pe_bltn (v := .ty "str") (u := .type "str") rfl Z.free_str rfl rfl)))) (ass_one (as_raise (xmk_BadText Z) (cx.room.mono (by decide)) cx.tk (aa_cons ae_int (aa_cons ae_int aa_nil)))) ass_nil)
    (ass_one (as_ret (ae_lc (own := [("line", 1)]) sc_lines_of.nd (ai_list (ae_bm F.plainAttrs_str F.slot_str_split F.type_str_split mt_split md_split (av 0) (aa_cons ae_str aa_nil))) rfl (fun s H C cl fp => (ag_name 1 sc_lines_of.nd)) (fun s H C cl fp => ats_nil) (fun s H C cl fp => (ae_bm F.plainAttrs_str F.slot_str_split F.type_str_split mt_split md_split (av 1) (aa_cons ae_str aa_nil)))))))⟩
theorem ok_lines_of (Z : Fx P w K mg) : Ok P w K mg base 4 (He.ga K "lines_of") m_lines_of := by
  obtain ⟨fd, F⟩ := Z.d_lines_of
  exact ⟨⟨fd, ["text"], fn_ok F sc_lines_of fun cdv A outer s H E cx => w_lines_of Z cx, F.bindsN fun _ _ _ _ _ _ us hl => match us, hl with | [_], _ => rfl⟩, F.kp⟩
end
section
variable [kd : KdC]
theorem sc_need_end : FnScope N_need_end ["lines", "at"] (defScope s_need_end) := ⟨rfl, rfl, rfl, by decide +kernel, rfl, by decide +kernel, by decide +kernel⟩
theorem w_need_end (Z : Fx P w K mg) {f : Addr} {cdv : Value} {A : Around} {outer : List Env} {s : Shared} {H : Hp} {E : XK} (cx : Ctx P w K mg base N_need_end (defScope s_need_end) 3 (cxOf (cxk P w) P w K mg base N_need_end "need_end" (defScope s_need_end) f cdv A outer s H E) E) :
    ∃ ts, ASs K (cxOf (cxk P w) P w K mg base N_need_end "need_end" (defScope s_need_end) f cdv A outer s H E) E (defBody s_need_end) ts g_need_end := ⟨_, (ass_one (as_if (at_cmp op_gt od_gt (ae_blt call_len cd_len Z.free_len (aa_cons (av 0) aa_nil)) (av 1) (nomark _)) (ass_one (as_raise (xmk_BadText Z) (cx.room.mono (by decide)) cx.tk (aa_cons (av 1) (aa_cons ae_int aa_nil)))) ass_nil))⟩
theorem ok_need_end (Z : Fx P w K mg) : Ok P w K mg base 4 (He.ga K "need_end") m_need_end := by
  obtain ⟨fd, F⟩ := Z.d_need_end
  exact ⟨⟨fd, ["lines", "at"], fn_ok F sc_need_end fun cdv A outer s H E cx => w_need_end Z cx, F.bindsN fun _ _ _ _ _ _ us hl => match us, hl with | [_, _], _ => rfl⟩, F.kp⟩
end
theorem sc_packet_in : FnScope N_packet_in ["words", "line"] (defScope s_packet_in) := ⟨rfl, rfl, rfl, by decide +kernel, rfl, by decide +kernel, by decide +kernel⟩
theorem w_packet_in (Z : Fx P w K mg) {f : Addr} {cdv : Value} {A : Around} {outer : List Env} {s : Shared} {H : Hp} {E : XK} (cx : Ctx P w K mg base N_packet_in (defScope s_packet_in) 5 (cxOf (cxk P w) P w K mg base N_packet_in "packet_in" (defScope s_packet_in) f cdv A outer s H E) E) :
    ∃ ts, ASs K (cxOf (cxk P w) P w K mg base N_packet_in "packet_in" (defScope s_packet_in) f cdv A outer s H E) E (defBody s_packet_in) ts g_packet_in := ⟨_, (ass_one (Classical.choose_spec (as_tryN (cv := .ref (He.ga _ "BadText")) rfl rfl rfl sc_packet_in.nd rfl rfl ⟨by rfl, by rfl, .inl Z.glo_BadText⟩ (fun hd => L2H.passesAt_of rfl hd) cx.tk (cat_of Z.catT_BadText) (xmkH_BadText Z) (cx.room.mono (by decide)) (fun W => ⟨_, fun pn xe tk => (ax_cm tk (cmc (kd := kdN) (ok_Packet_read (kd := kdN) Z) Z.cm_Packet_read Z.glo_Packet (pass_e0 (kd := kdN))) (cx.room.mono (by decide)) (aa_cons (ae_bm F.plainAttrs_str F.slot_str_join F.type_str_join mt_join md_join ae_str (aa_cons (av 0) aa_nil)) aa_nil))⟩) ⟨_, fun a oe cls d pn xe hz hdat => (aja_cons (aj_of (av 1)) (aja_cons (aj_xf (xft_word Z) List.mem_cons_self hz hdat rfl (.inl rfl)) aja_nil))⟩)))⟩
theorem ok_packet_in (Z : Fx P w K mg) : Ok P w K mg base 6 (He.ga K "packet_in") m_packet_in := by
  obtain ⟨fd, F⟩ := Z.d_packet_in
  exact ⟨⟨fd, ["words", "line"], fn_ok F sc_packet_in fun cdv A outer s H E cx => w_packet_in Z cx, F.bindsN fun _ _ _ _ _ _ us hl => match us, hl with | [_, _], _ => rfl⟩, F.kp⟩
theorem sc_read_packets : FnScope N_read_packets ["text"] (defScope s_read_packets) := ⟨rfl, rfl, rfl, by decide +kernel, rfl, by decide +kernel, by decide +kernel⟩
theorem w_read_packets (Z : Fx P w K mg) {f : Addr} {cdv : Value} {A : Around} {outer : List Env} {s : Shared} {H : Hp} {E : XK} (cx : Ctx P w K mg base N_read_packets (defScope s_read_packets) 6 (cxOf (cxk P w) P w K mg base N_read_packets "read_packets" (defScope s_read_packets) f cdv A outer s H E) E) :
    ∃ ts, ASs K (cxOf (cxk P w) P w K mg base N_read_packets "read_packets" (defScope s_read_packets) f cdv A outer s H E) E (defBody s_read_packets) ts g_read_packets := ⟨_, (ass_cons (as_set 1 sc_read_packets.nd (ae_call (cal_of (ok_lines_of Z) Z.glo_lines_of) (cx.room.mono (by decide)) cx.px (aa_cons (av 0) aa_nil)))
    (ass_cons (as_if (at_cmp op_eq od_eqS (ae_ix (ae_ix (av 1) ae_int (by intro _ _; rfl)) ae_int (by intro _ _; rfl)) ae_str (nomark _)) (ass_cons (as_if (at_cmp op_gt od_gt (ae_blt call_len cd_len Z.free_len (aa_cons (ae_ix (av 1) ae_int (by intro _ _; rfl)) aa_nil)) ae_int (nomark _)) (ass_one (as_raise (xmk_BadText Z) (cx.room.mono (by decide)) cx.tk (aa_cons ae_int (aa_cons ae_int aa_nil)))) ass_nil)
    (ass_cons (as_expr (ae_call (cal_of (ok_need_end Z) Z.glo_need_end) (cx.room.mono (by decide)) cx.px (aa_cons (av 1) (aa_cons ae_int aa_nil))))
    (ass_one (as_ret (ae_tup aa_nil))))) ass_nil)
    (ass_one (as_ret (ae_ty call_tuple_of cd_tuple Z.free_tuple (aa_cons (ae_lcX (own := [("line", 2), ("words", 3)]) sc_read_packets.nd cx.tk (ai_enum rfl Z.free_enumerate (aa_cons (av 1) aa_nil)) rfl (fun s H C cl fp => (ag_tup (ags_cons (ag_name 2 sc_read_packets.nd) (ags_cons (ag_name 3 sc_read_packets.nd) ags_nil)))) (fun s H C cl fp => ats_nil) (fun s H C cl fp xe px => (ae_call (cal_of (ok_packet_in Z) Z.glo_packet_in) (cx.room.mono (by decide)) px (aa_cons (av 3) (aa_cons (av 2) aa_nil))))) aa_nil))))))⟩
theorem ok_read_packets (Z : Fx P w K mg) : Ok P w K mg base 7 (He.ga K "read_packets") m_read_packets := by
  obtain ⟨fd, F⟩ := Z.d_read_packets
  exact ⟨⟨fd, ["text"], fn_ok F sc_read_packets fun cdv A outer s H E cx => w_read_packets Z cx, F.bindsN fun _ _ _ _ _ _ us hl => match us, hl with | [_], _ => rfl⟩, F.kp⟩
theorem ka_read_packets_text (Z : Fx P w K mg) : FnA P w K mg base 7 (He.ga K "read_packets") ["text"] m_read_packets := by
  obtain ⟨fd, F⟩ := Z.d_read_packets
  obtain ⟨oc, od, dV, kV, doc, pm, an, cdv, ct, osl, e1, lk, hcd, hD, _⟩ := id F.ex
  have e2 : dV = .none := by
    rcases hD with ⟨_, e⟩ | ⟨e, _⟩
    · exact e
    · exact absurd rfl e
  subst e2
  refine fna_kw (ps := ["text"]) (fn_ok F sc_read_packets fun cdv A outer s H E cx => w_read_packets Z cx) ["text"] fun s us us2 X h1 h2 => ?_
  subst e1
  have h3 : us.length = 0 := by
    rw [List.length_append, h1] at h2
    simpa using h2
  match us2, h1, us, h3 with
  | [b0], _, [], _ => exact .of_eq rfl
theorem cala_read_packets_text {X : Cx} {E : XK} (Z : Fx X.prog X.w X.K X.mg) (px : Passes (cxk X.prog X.w) X E) : CalA X 7 E "read_packets" ["text"] m_read_packets := let ⟨fd, F⟩ := Z.d_read_packets; ⟨⟨_, ka_read_packets_text Z, Z.glo_read_packets, F.kp⟩, px⟩
theorem sc__law_one_right : FnScope N__law_one_right ["_law_page"] (defScope s__law_one_right) := ⟨rfl, rfl, rfl, by decide +kernel, rfl, by decide +kernel, by decide +kernel⟩
theorem w__law_one_right (Z : Fx P w K mg) (TB : ∀ p ∈ csK K, LamX.TabB base mg p.1 p.2) {c P0 : Addr} (ht : PySem.W.tabIn K "_law_one_right" = some (c, P0)) {f : Addr} {A : Around} {outer : List Env} {s : Shared} {H : Hp} {E : XK} (cx : Ctx P w K mg base N__law_one_right (defScope s__law_one_right) 9 (cxOf (cxk P w) P w K mg base N__law_one_right "_law_one_right" (defScope s__law_one_right) f (.ref c) A outer s H E) E) (gd : (cxOf (cxk P w) P w K mg base N__law_one_right "_law_one_right" (defScope s__law_one_right) f (.ref c) A outer s H E).A.guards = some []) :
    ∃ ts, ASs K (cxOf (cxk P w) P w K mg base N__law_one_right "_law_one_right" (defScope s__law_one_right) f (.ref c) A outer s H E) E (defBody s__law_one_right) ts g__law_one_right := ⟨_, (ass_cons (as_par 1 2 sc__law_one_right.nd (aa_cons (ae_callG (calg_of (ok__law_due Z TB) Z.glo__law_due cx.px) (cx.room.mono (by decide)) gd (aa_cons (av 0) aa_nil)) (aa_cons (aeh Z gd (k := 7) TB ht (cx.room.mono (by decide)) (LamX.lamS_by (sc := defScope s__law_one_right) (by decide +kernel)) (fun E => ⟨_, fun A outer s H f c2 ga hr => have cx := RL.ctx_lam (N := N__law_one_right) hr; (ae_call (cal_of (ok_read_packets Z) Z.glo_read_packets) (cx.room.mono (by decide)) cx.px (aa_cons (av 0) aa_nil))⟩)) aa_nil)))
    (ass_cons (as_if (at_cmp op_notN od_notN (av 1) ae_non (nomark _)) (ass_one (as_ret (ae_cmp (op_eqD (by exact un64 cx.room)) od_eqD (av 2) (av 1) (nomark _)))) ass_nil)
    (ass_one (as_ret (ae_and (ae_isi Z.isf (tab_ok_list Z) (.ty _) Z.free_isinstance (av 2) (pe_bltn (v := .ty "list") (u := .type "list") rfl Z.free_list rfl rfl)) (ae_and (ae_isi Z.isf (tab_ok_tuple Z) (.ty _) Z.free_isinstance (ae_ix (av 2) ae_int (by intro _ _; rfl)) (pe_bltn (v := .ty "tuple") (u := .type "tuple") rfl Z.free_tuple rfl rfl)) (ae_one (ae_cmp op_eq od_eqS (ae_call (cal_of (ok_packets_text Z) Z.glo_packets_text) (cx.room.mono (by decide)) cx.px (aa_cons (ae_ix (av 2) ae_int (by intro _ _; rfl)) aa_nil)) (av 0) (nomark _)))))))))⟩
theorem ok__law_one_right (Z : Fx P w K mg) (TB : ∀ p ∈ csK K, LamX.TabB base mg p.1 p.2) : FnG P w K mg base 10 (He.ga K "_law_one_right") m__law_one_right ∧ PySem.W.keepIn K (.ref (He.ga K "_law_one_right")) = true := by
  obtain ⟨fd, F⟩ := Z.d__law_one_right
  obtain ⟨c, P0, ht, hcode⟩ := lamAt_of Z.lam__law_one_right
  obtain ⟨oc, od, dV, kV, doc, pm, an, cdv, ct, osl, e1, lk, _⟩ := id F.ex
  exact ⟨fng_ofL F sc__law_one_right (F.bindsN (ps := ["_law_page"]) fun _ _ _ _ _ _ us hl => match us, hl with | [_], _ => rfl) (hcode _ _ _ _ lk) fun A outer s H E cx gd => w__law_one_right Z TB ht cx gd, F.kp⟩
section
variable [kd : KdC]
theorem sc__law_packet : FnScope N__law_packet ["_law_pen_here"] (defScope s__law_packet) := ⟨rfl, rfl, rfl, by decide +kernel, rfl, by decide +kernel, by decide +kernel⟩
theorem w__law_packet (Z : Fx P w K mg) {f : Addr} {cdv : Value} {A : Around} {outer : List Env} {s : Shared} {H : Hp} {E : XK} (cx : Ctx P w K mg base N__law_packet (defScope s__law_packet) 2 (cxOf (cxk P w) P w K mg base N__law_packet "_law_packet" (defScope s__law_packet) f cdv A outer s H E) E) :
    ∃ ts, ASs K (cxOf (cxk P w) P w K mg base N__law_packet "_law_packet" (defScope s__law_packet) f cdv A outer s H E) E (defBody s__law_packet) ts g__law_packet := ⟨_, (ass_cons (as_set 1 sc__law_packet.nd (ae_call (cal_of (ok__law_pick Z) Z.glo__law_pick) (cx.room.mono (by decide)) cx.px (aa_cons (av 0) (aa_cons (ae_lst (aa_cons ae_int (aa_cons ae_int (aa_cons ae_int (aa_cons (ae_call (cal_of (ok__law_draw Z) Z.glo__law_draw) (cx.room.mono (by decide)) cx.px (aa_cons (av 0) (aa_cons ae_int aa_nil))) (aa_cons (ae_bin op_pow od_pow ae_int ae_int) (aa_cons (ae_bin op_pow od_pow ae_int ae_int) aa_nil))))))) aa_nil))))
    (ass_cons (as_setLc 2 (own := [("_law_turn_so", 3)]) sc__law_packet.nd (ai_range1 rfl Z.free_range (aa_cons (ae_call (cal_of (ok__law_pick Z) Z.glo__law_pick) (cx.room.mono (by decide)) cx.px (aa_cons (av 0) (aa_cons (ae_lst (aa_cons ae_int (aa_cons ae_int (aa_cons ae_int (aa_cons ae_int (aa_cons ae_int aa_nil)))))) aa_nil))) aa_nil)) rfl (fun s H C cl fp => (ag_name 3 sc__law_packet.nd)) (fun s H C cl fp => ats_nil) (fun s H C cl fp => (ae_call (cal_of (ok__law_pick Z) Z.glo__law_pick) (cx.room.mono (by decide)) pass_e0 (aa_cons (av 0) (aa_cons (ae_lst (aa_cons ae_int (aa_cons ae_int (aa_cons (ae_call (cal_of (ok__law_draw Z) Z.glo__law_draw) (cx.room.mono (by decide)) pass_e0 (aa_cons (av 0) (aa_cons ae_int aa_nil))) (aa_cons (ae_bin op_pow od_pow ae_int ae_int) (aa_cons (ae_bin op_pow od_pow ae_int ae_int) aa_nil)))))) aa_nil)))) rfl)
    (ass_cons (as_set 4 sc__law_packet.nd (ae_bin op_add_str od_addS (ae_bin op_add_str od_addS (ae_ty call_str_int cd_str Z.free_str (aa_cons (av 1) aa_nil)) ae_str) (ae_if (at_cmp (op_neD (by exact un64 cx.room)) od_neD (av 2) (ae_lst aa_nil) (nomark _)) (ae_bm F.plainAttrs_str F.slot_str_join F.type_str_join mt_join md_join ae_str (aa_cons (ae_lc (own := [("_law_part", 5)]) sc__law_packet.nd (ai_list (av 2)) rfl (fun s H C cl fp => (ag_name 5 sc__law_packet.nd)) (fun s H C cl fp => ats_nil) (fun s H C cl fp => (ae_ty call_str_int cd_str Z.free_str (aa_cons (av 5) aa_nil)))) aa_nil)) ae_str)))
    (ass_one (as_ret (ae_tup (aa_cons (ae_mk (kp := false) (mkc_Packet Z cx.px) (cx.room.mono (by decide)) (aa_cons (av 1) (aa_cons (ae_ty call_tuple_of cd_tuple Z.free_tuple (aa_cons (av 2) aa_nil)) aa_nil)) ak_nil (fun _ _ _ _ h => by cases h; rfl)) (aa_cons (av 4) aa_nil))))))))⟩
theorem ok__law_packet (Z : Fx P w K mg) : Ok P w K mg base 3 (He.ga K "_law_packet") m__law_packet := by
  obtain ⟨fd, F⟩ := Z.d__law_packet
  exact ⟨⟨fd, ["_law_pen_here"], fn_ok F sc__law_packet fun cdv A outer s H E cx => w__law_packet Z cx, F.bindsN fun _ _ _ _ _ _ us hl => match us, hl with | [_], _ => rfl⟩, F.kp⟩
end
section
variable [kd : KdC]
theorem sc__law_pen : FnScope N__law_pen ["_law_script"] (defScope s__law_pen) := ⟨rfl, rfl, rfl, by decide +kernel, rfl, by decide +kernel, by decide +kernel⟩
theorem w__law_pen (Z : Fx P w K mg) {f : Addr} {cdv : Value} {A : Around} {outer : List Env} {s : Shared} {H : Hp} {E : XK} (cx : Ctx P w K mg base N__law_pen (defScope s__law_pen) 0 (cxOf (cxk P w) P w K mg base N__law_pen "_law_pen" (defScope s__law_pen) f cdv A outer s H E) E) :
    ∃ ts, ASs K (cxOf (cxk P w) P w K mg base N__law_pen "_law_pen" (defScope s__law_pen) f cdv A outer s H E) E (defBody s__law_pen) ts g__law_pen := ⟨_, (ass_one (as_ret (ae_lstM (aa_cons (ae_ty call_list_of cd_listF Z.free_list (aa_cons (ae_slice (av 0) ao_none (ao_some ae_int)) aa_nil)) (aa_cons ae_int (aa_cons ae_int aa_nil))))))⟩
theorem ok__law_pen (Z : Fx P w K mg) : Ok P w K mg base 1 (He.ga K "_law_pen") m__law_pen := by
  obtain ⟨fd, F⟩ := Z.d__law_pen
  exact ⟨⟨fd, ["_law_script"], fn_ok F sc__law_pen fun cdv A outer s H E cx => w__law_pen Z cx, F.bindsN fun _ _ _ _ _ _ us hl => match us, hl with | [_], _ => rfl⟩, F.kp⟩
end
theorem sc_law : FnScope N_law ["_law_script"] (defScope s_law) := ⟨rfl, rfl, rfl, by decide +kernel, rfl, by decide +kernel, by decide +kernel⟩
theorem w_law (Z : Fx P w K mg) (TB : ∀ p ∈ csK K, LamX.TabB base mg p.1 p.2) {c P0 : Addr} (ht : PySem.W.tabIn K "law" = some (c, P0)) {f : Addr} {A : Around} {outer : List Env} {s : Shared} {H : Hp} {E : XK} (cx : Ctx P w K mg base N_law (defScope s_law) 10 (cxOf (cxk P w) P w K mg base N_law "law" (defScope s_law) f (.ref c) A outer s H E) E) (gd : (cxOf (cxk P w) P w K mg base N_law "law" (defScope s_law) f (.ref c) A outer s H E).A.guards = some []) :
    ∃ ts, ASs K (cxOf (cxk P w) P w K mg base N_law "law" (defScope s_law) f (.ref c) A outer s H E) E (defBody s_law) ts g_law := ⟨_, (ass_cons (as_set 1 sc_law.nd (ae_call (cal_of (ok__law_pen Z) Z.glo__law_pen) (cx.room.mono (by decide)) cx.px (aa_cons (av 0) aa_nil)))
    (ass_cons (as_for cx.own (ai_range1 rfl Z.free_range (aa_cons ae_int aa_nil)) (ag_name 2 sc_law.nd) (ass_cons (as_setLc 3 (own := [("_law_lap_so", 4)]) sc_law.nd (ai_range1 rfl Z.free_range (aa_cons (ae_call (cal_of (ok__law_draw Z) Z.glo__law_draw) (cx.room.mono (by decide)) cx.px (aa_cons (av 1) (aa_cons ae_int aa_nil))) aa_nil)) rfl (fun s H C cl fp => (ag_name 4 sc_law.nd)) (fun s H C cl fp => ats_nil) (fun s H C cl fp => (ae_call (cal_of (ok__law_packet Z) Z.glo__law_packet) (cx.room.mono (by decide)) pass_e0 (aa_cons (av 1) aa_nil))) rfl)
    (ass_cons (as_par 5 6 sc_law.nd (aa_cons (ae_lc (own := [("_law_packet_here", 7), ("_law_line", 8)]) sc_law.nd (ai_list (av 3)) rfl (fun s H C cl fp => (ag_tup (ags_cons (ag_name 7 sc_law.nd) (ags_cons (ag_name 8 sc_law.nd) ags_nil)))) (fun s H C cl fp => ats_nil) (fun s H C cl fp => (av 7))) (aa_cons (ae_if (at_cmp (op_neNil (cx.room.mono (by decide)) (by exact un64 cx.room) (fun _ _ => rfl)) od_neNil (av 3) (ae_lst aa_nil) (nomark _)) (ae_bm F.plainAttrs_str F.slot_str_join F.type_str_join mt_join md_join ae_str (aa_cons (ae_lc (own := [("_law_packet_here", 7), ("_law_line", 8)]) sc_law.nd (ai_list (av 3)) rfl (fun s H C cl fp => (ag_tup (ags_cons (ag_name 7 sc_law.nd) (ags_cons (ag_name 8 sc_law.nd) ags_nil)))) (fun s H C cl fp => ats_nil) (fun s H C cl fp => (av 8))) aa_nil)) ae_str) aa_nil)))
    (ass_cons (as_if (AW.at (aw_or (at_cmp op_ne od_neS (ae_call (cal_of (ok_packets_text Z) Z.glo_packets_text) (cx.room.mono (by decide)) cx.px (aa_cons (av 5) aa_nil)) (av 6) (nomark _)) (aw_or1 (at_cmp op_ne od_neS (ae_callK0 (cala_packets_text_packets Z cx.px) (cx.room.mono (by decide)) (ak_cons (ae_ty call_tuple_of cd_tuple Z.free_tuple (aa_cons (av 5) aa_nil)) ak_nil) len_1) (av 6) (nomark _))))) (ass_one (as_ret ae_bl)) ass_nil)
    (ass_cons (as_if (AW.at (aw_or (at_cmp (op_q (rcM_tupNe (eqM_one (rcm_eq (ok_Packet___eq__ Z) cx.px Z.nf_Packet_Packet))) (cx.room.mono (by decide)) (fun _ _ => rfl)) od_q (ae_callK0 (cala_read_packets_text Z cx.px) (cx.room.mono (by decide)) (ak_cons (av 6) ak_nil) len_1) (ae_ty call_tuple_of cd_tuple Z.free_tuple (aa_cons (av 5) aa_nil)) (nomark _)) (aw_or1 (at_not (at_val (ae_callG (calg_of (ok__law_one_right Z TB) Z.glo__law_one_right cx.px) (cx.room.mono (by decide)) gd (aa_cons (av 6) aa_nil))))))) (ass_one (as_ret ae_bl)) ass_nil)
    (ass_cons (as_for cx.own (ai_range1 rfl Z.free_range (aa_cons ae_int aa_nil)) (ag_name 4 sc_law.nd) (ass_cons (as_set 9 sc_law.nd (ae_call (cal_of (ok__law_bent Z) Z.glo__law_bent) (cx.room.mono (by decide)) cx.px (aa_cons (av 1) (aa_cons (av 6) aa_nil))))
    (ass_one (as_if (AW.at (aw_or (at_not (at_val (ae_callG (calg_of (ok__law_one_right Z TB) Z.glo__law_one_right cx.px) (cx.room.mono (by decide)) gd (aa_cons (av 9) aa_nil)))) (aw_or1 (at_not (at_val (ae_callG (calg_of (ok__law_one_right Z TB) Z.glo__law_one_right cx.px) (cx.room.mono (by decide)) gd (aa_cons (ae_call (cal_of (ok__law_bent Z) Z.glo__law_bent) (cx.room.mono (by decide)) cx.px (aa_cons (av 1) (aa_cons (av 9) aa_nil))) aa_nil))))))) (ass_one (as_ret ae_bl)) ass_nil))))
    (ass_cons (as_set 10 sc_law.nd (ae_lst (aa_cons ae_non (aa_cons ae_int (aa_cons ae_str (aa_cons (av 6) (aa_cons ae_dct0 (aa_cons (ae_lst (aa_cons ae_non aa_nil)) (aa_cons (ae_tup (aa_cons ae_str aa_nil)) (aa_cons ae_bl (aa_cons (ae_mk (kp := false) (mkc_Packet Z cx.px) (cx.room.mono (by decide)) (aa_cons ae_int (aa_cons (ae_tup aa_nil) aa_nil)) ak_nil (fun _ _ _ _ h => by cases h; rfl)) (aa_cons (ae_bin op_cat od_cat (av 5) (ae_lst (aa_cons ae_int aa_nil))) (aa_cons (ae_lst (aa_cons (ae_mk (kp := false) (mkc_Packet Z cx.px) (cx.room.mono (by decide)) (aa_cons ae_int (aa_cons (ae_lst (aa_cons ae_int aa_nil)) aa_nil)) ak_nil (fun _ _ _ _ h => by cases h; rfl)) aa_nil)) (aa_cons (ae_lst (aa_cons (ae_mk (kp := false) (mkc_Packet Z cx.px) (cx.room.mono (by decide)) (aa_cons (ae_neg ae_int) (aa_cons (ae_tup aa_nil) aa_nil)) ak_nil (fun _ _ _ _ h => by cases h; rfl)) aa_nil)) aa_nil))))))))))))))
    (ass_cons (as_set 10 sc_law.nd (ae_bin op_cat od_cat (av 10) (ae_lst (aa_cons (ae_lst (aa_cons (ae_mk (kp := false) (mkc_Packet Z cx.px) (cx.room.mono (by decide)) (aa_cons ae_bl (aa_cons (ae_tup aa_nil) aa_nil)) ak_nil (fun _ _ _ _ h => by cases h; rfl)) aa_nil)) (aa_cons (ae_lst (aa_cons (ae_mk (kp := false) (mkc_Packet Z cx.px) (cx.room.mono (by decide)) (aa_cons ae_int (aa_cons (ae_tup (aa_cons ae_bl aa_nil)) aa_nil)) ak_nil (fun _ _ _ _ h => by cases h; rfl)) aa_nil)) (aa_cons (ae_lst (aa_cons (ae_mk (kp := false) (mkc_Packet Z cx.px) (cx.room.mono (by decide)) (aa_cons ae_int (aa_cons (ae_tup (aa_cons ae_int (aa_cons (ae_neg ae_int) aa_nil))) aa_nil)) ak_nil (fun _ _ _ _ h => by cases h; rfl)) aa_nil)) (aa_cons (ae_lst (aa_cons (ae_mk (kp := false) (mkc_Packet Z cx.px) (cx.room.mono (by decide)) (aa_cons ae_non (aa_cons (ae_tup (aa_cons ae_int aa_nil)) aa_nil)) ak_nil (fun _ _ _ _ h => by cases h; rfl)) aa_nil)) (aa_cons (ae_lst (aa_cons (ae_mk (kp := false) (mkc_Packet Z cx.px) (cx.room.mono (by decide)) (aa_cons ae_int (aa_cons ae_non aa_nil)) ak_nil (fun _ _ _ _ h => by cases h; rfl)) aa_nil)) (aa_cons (ae_lst (aa_cons (ae_mk (kp := false) (mkc_Packet Z cx.px) (cx.room.mono (by decide)) (aa_cons ae_str (aa_cons (ae_tup aa_nil) aa_nil)) ak_nil (fun _ _ _ _ h => by cases h; rfl)) aa_nil)) aa_nil)))))))))
    (ass_cons (as_set 11 sc_law.nd (ae_call (cal_of (ok__law_pick Z) Z.glo__law_pick) (cx.room.mono (by decide)) cx.px (aa_cons (av 1) (aa_cons (av 10) aa_nil))))
    (ass_cons (as_if (at_cmp (op_neD (by exact un64 cx.room)) od_neD (aeh Z gd (k := 4) TB ht (cx.room.mono (by decide)) (LamX.lamS_by (sc := defScope s_law) (by decide +kernel)) (fun E => ⟨_, fun A outer s H f c2 ga hr => have cx := RL.ctx_lam (N := N_law) hr; (ae_call (cal_of (ok_packets_text Z) Z.glo_packets_text) (cx.room.mono (by decide)) cx.px (aa_cons (av 11) aa_nil))⟩)) (ae_tup (aa_cons ae_str (aa_cons ae_str aa_nil))) (nomark _)) (ass_one (as_ret ae_bl)) ass_nil)
    (ass_cons (as_set 11 sc_law.nd (ae_call (cal_of (ok__law_pick Z) Z.glo__law_pick) (cx.room.mono (by decide)) cx.px (aa_cons (av 1) (aa_cons (ae_lst (aa_cons ae_non (aa_cons ae_int (aa_cons ae_bl (aa_cons (ae_tup aa_nil) (aa_cons (ae_lst (aa_cons ae_str aa_nil)) (aa_cons ae_dct0 (aa_cons (ae_mk (kp := false) (mkc_Packet Z cx.px) (cx.room.mono (by decide)) (aa_cons ae_int (aa_cons (ae_tup aa_nil) aa_nil)) ak_nil (fun _ _ _ _ h => by cases h; rfl)) aa_nil)))))))) aa_nil))))
    (ass_one (as_if (at_cmp (op_neD (by exact un64 cx.room)) od_neD (aeh Z gd (k := 7) TB ht (cx.room.mono (by decide)) (LamX.lamS_by (sc := defScope s_law) (by decide +kernel)) (fun E => ⟨_, fun A outer s H f c2 ga hr => have cx := RL.ctx_lam (N := N_law) hr; (ae_call (cal_of (ok_read_packets Z) Z.glo_read_packets) (cx.room.mono (by decide)) cx.px (aa_cons (av 11) aa_nil))⟩)) (ae_tup (aa_cons ae_str (aa_cons ae_str (aa_cons ae_str aa_nil)))) (nomark _)) (ass_one (as_ret ae_bl)) ass_nil)))))))))))))
    (ass_cons (as_set 10 sc_law.nd (ae_lst (aa_cons ae_str (aa_cons ae_str (aa_cons ae_str (aa_cons ae_str (aa_cons ae_str (aa_cons ae_str (aa_cons ae_str (aa_cons ae_str (aa_cons ae_str (aa_cons ae_str aa_nil))))))))))))
    (ass_cons (as_set 12 sc_law.nd (ae_lst (aa_cons (ae_tup (aa_cons ae_str (aa_cons ae_str (aa_cons ae_str aa_nil)))) (aa_cons ae_non (aa_cons (ae_tup (aa_cons ae_str (aa_cons ae_str (aa_cons ae_str aa_nil)))) (aa_cons (ae_tup (aa_cons ae_str (aa_cons ae_str (aa_cons ae_str aa_nil)))) (aa_cons (ae_tup (aa_cons ae_str (aa_cons ae_str (aa_cons ae_str aa_nil)))) (aa_cons (ae_tup (aa_cons ae_str (aa_cons ae_str (aa_cons ae_str aa_nil)))) (aa_cons (ae_tup (aa_cons ae_str (aa_cons ae_str (aa_cons ae_str aa_nil)))) aa_nil)))))))))
    (ass_one (as_ret (ae_and (ae_cmp (op_eqD (by exact un64 cx.room)) od_eqD (ae_lc (own := [("_law_page", 6)]) sc_law.nd (ai_list (av 10)) rfl (fun s H C cl fp => (ag_name 6 sc_law.nd)) (fun s H C cl fp => (ats_one (at_not (at_val (ae_callG (calg_of (ok__law_one_right Z TB) Z.glo__law_one_right pass_e0) (cx.room.mono (by decide)) gd (aa_cons (av 6) aa_nil)))))) (fun s H C cl fp => (av 6))) (ae_lst aa_nil) (nomark _)) (ae_one (ae_cmp (op_eqD (by exact un64 cx.room)) od_eqD (ae_lc (own := [("_law_page", 6)]) sc_law.nd (ai_list (ae_slice (av 10) ao_none (ao_some ae_int))) rfl (fun s H C cl fp => (ag_name 6 sc_law.nd)) (fun s H C cl fp => ats_nil) (fun s H C cl fp => (ae_callG (calg_of (ok__law_due Z TB) Z.glo__law_due pass_e0) (cx.room.mono (by decide)) gd (aa_cons (av 6) aa_nil)))) (av 12) (nomark _))))))))))⟩
theorem ok_law (Z : Fx P w K mg) (TB : ∀ p ∈ csK K, LamX.TabB base mg p.1 p.2) : FnG P w K mg base 11 (He.ga K "law") m_law ∧ PySem.W.keepIn K (.ref (He.ga K "law")) = true := by
  obtain ⟨fd, F⟩ := Z.d_law
  obtain ⟨c, P0, ht, hcode⟩ := lamAt_of Z.lam_law
  obtain ⟨oc, od, dV, kV, doc, pm, an, cdv, ct, osl, e1, lk, _⟩ := id F.ex
  exact ⟨fng_ofL F sc_law (F.bindsN (ps := ["_law_script"]) fun _ _ _ _ _ _ us hl => match us, hl with | [_], _ => rfl) (hcode _ _ _ _ lk) fun A outer s H E cx gd => w_law Z TB ht cx gd, F.kp⟩
end
end K87
set_option Elab.async false
set_option linter.all false
set_option maxRecDepth 100000
set_option maxHeartbeats 0
/-! the head: facts by names, the run of the top -/
namespace K87
open RL PySem PySem.Spec PyProof.Rows L2
def exs : List Tst := [
  fun K => He.Fa.ok K (.glo "BadStream"),
  fun K => He.Fa.ok K (.glo "BadText"),
  fun K => He.Fa.ok K (.glo "Packet"),
  fun K => He.Fa.ok K (.glo "RepairError"),
  fun K => He.Fa.ok K (.glo "_law_bent"),
  fun K => He.Fa.ok K (.glo "_law_draw"),
  fun K => He.Fa.ok K (.glo "_law_due"),
  fun K => He.Fa.ok K (.glo "_law_heard"),
  fun K => He.Fa.ok K (.glo "_law_one_right"),
  fun K => He.Fa.ok K (.glo "_law_packet"),
  fun K => He.Fa.ok K (.glo "_law_pen"),
  fun K => He.Fa.ok K (.glo "_law_pick"),
  fun K => He.Fa.ok K (.glo "counted"),
  fun K => He.Fa.ok K (.glo "is_from_nought"),
  fun K => He.Fa.ok K (.glo "is_packet"),
  fun K => He.Fa.ok K (.glo "law"),
  fun K => He.Fa.ok K (.glo "lines_of"),
  fun K => He.Fa.ok K (.glo "need_end"),
  fun K => He.Fa.ok K (.glo "packet_in"),
  fun K => He.Fa.ok K (.glo "packets_text"),
  fun K => He.Fa.ok K (.glo "read_packets"),
  fun K => He.Fa.ok K (.free "abs"),
  fun K => He.Fa.ok K (.free "all"),
  fun K => He.Fa.ok K (.free "bool"),
  fun K => He.Fa.ok K (.free "enumerate"),
  fun K => He.Fa.ok K (.free "int"),
  fun K => He.Fa.ok K (.free "isinstance"),
  fun K => He.Fa.ok K (.free "len"),
  fun K => He.Fa.ok K (.free "list"),
  fun K => He.Fa.ok K (.free "range"),
  fun K => He.Fa.ok K (.free "repr"),
  fun K => He.Fa.ok K (.free "str"),
  fun K => He.Fa.ok K (.free "tuple"),
  fun K => He.Fa.ok K (.cls "Packet"),
  iscB "Packet",
  fun K => He.Fa.ok K (.noat "Packet" "parts"),
  fun K => He.Fa.ok K (.noat "Packet" "tick"),
  isfB,
  fun K => He.Fa.ok K (.meth "Packet" "__eq__"),
  fun K => PySem.W.fnIn K (He.ma K (He.ga K "Packet") "__eq__"),
  fun K => He.Fa.ok K (.meth "Packet" "__str__"),
  fun K => PySem.W.fnIn K (He.ma K (He.ga K "Packet") "__str__"),
  fun K => He.Fa.ok K (.mkr "Packet"),
  cmB "Packet" "read",
  excB "BadStream",
  excB "BadText",
  fun K => He.eqO (PySem.W.findIn K (.ref (He.ga K "BadStream")) "part") (some none),
  fun K => He.eqO (PySem.W.findIn K (.ref (He.ga K "BadText")) "line") (some none),
  fun K => He.eqO (PySem.W.findIn K (.ref (He.ga K "BadText")) "word") (some none),
  fun K => He.Fa.ok K (.free "super"),
  isxB xcl_BadStream xtab_BadStream,
  isxB xcl_BadText xtab_BadText,
  catB "RepairError" xcat,
  tabUB,
  lamAtB "_law_due",
  lamAtB "_law_one_right",
  lamAtB "law",
  lamB ["_law_due", "_law_one_right", "law"],
  catB "BadText" catT_BadText,
  fun K => tabTB K tabT_list_tuple [.type "list", .type "tuple"],
  fun K => tabB K tab_Packet (.ref (He.ga K "Packet")),
  fun K => tabB K tab_bool (.type "bool"),
  fun K => tabB K tab_int (.type "int"),
  fun K => tabB K tab_list (.type "list"),
  fun K => tabB K tab_str (.type "str"),
  fun K => tabB K tab_tuple (.type "tuple"),
  fun K => PySem.W.notFirst K (He.ga K "Packet") (.ref (He.ga K "Packet"))]
def fns : List Df := [
  ⟨fun K => (He.ma K (He.ga K "Packet") "__eq__"), "__eq__", "Packet.__eq__", defArgs s_Packet___eq__, defBody s_Packet___eq__, defScope s_Packet___eq__, []⟩,
  ⟨fun K => (He.ma K (He.ga K "Packet") "__init__"), "__init__", "Packet.__init__", defArgs s_Packet___init__, defBody s_Packet___init__, defScope s_Packet___init__, []⟩,
  ⟨fun K => (He.ga K "_law_draw"), "_law_draw", "_law_draw", defArgs s__law_draw, defBody s__law_draw, defScope s__law_draw, []⟩,
  ⟨fun K => (He.ga K "_law_pick"), "_law_pick", "_law_pick", defArgs s__law_pick, defBody s__law_pick, defScope s__law_pick, []⟩,
  ⟨fun K => (He.ga K "_law_bent"), "_law_bent", "_law_bent", defArgs s__law_bent, defBody s__law_bent, defScope s__law_bent, []⟩,
  ⟨fun K => (He.ga K "counted"), "counted", "counted", defArgs s_counted, defBody s_counted, defScope s_counted, []⟩,
  ⟨fun K => (cmA K "Packet" "read"), "read", "Packet.read", defArgs s_Packet_read, defBody s_Packet_read, defScope s_Packet_read, []⟩,
  ⟨fun K => (He.ga K "_law_heard"), "_law_heard", "_law_heard", defArgs s__law_heard, defBody s__law_heard, defScope s__law_heard, []⟩,
  ⟨fun K => (He.ga K "_law_due"), "_law_due", "_law_due", defArgs s__law_due, defBody s__law_due, defScope s__law_due, []⟩,
  ⟨fun K => (He.ma K (He.ga K "Packet") "__str__"), "__str__", "Packet.__str__", defArgs s_Packet___str__, defBody s_Packet___str__, defScope s_Packet___str__, []⟩,
  ⟨fun K => (He.ga K "is_from_nought"), "is_from_nought", "is_from_nought", defArgs s_is_from_nought, defBody s_is_from_nought, defScope s_is_from_nought, []⟩,
  ⟨fun K => (He.ga K "is_packet"), "is_packet", "is_packet", defArgs s_is_packet, defBody s_is_packet, defScope s_is_packet, []⟩,
  ⟨fun K => (He.ga K "packets_text"), "packets_text", "packets_text", defArgs s_packets_text, defBody s_packets_text, defScope s_packets_text, []⟩,
  ⟨fun K => (He.ga K "lines_of"), "lines_of", "lines_of", defArgs s_lines_of, defBody s_lines_of, defScope s_lines_of, []⟩,
  ⟨fun K => (He.ga K "need_end"), "need_end", "need_end", defArgs s_need_end, defBody s_need_end, defScope s_need_end, []⟩,
  ⟨fun K => (He.ga K "packet_in"), "packet_in", "packet_in", defArgs s_packet_in, defBody s_packet_in, defScope s_packet_in, []⟩,
  ⟨fun K => (He.ga K "read_packets"), "read_packets", "read_packets", defArgs s_read_packets, defBody s_read_packets, defScope s_read_packets, []⟩,
  ⟨fun K => (He.ga K "_law_one_right"), "_law_one_right", "_law_one_right", defArgs s__law_one_right, defBody s__law_one_right, defScope s__law_one_right, []⟩,
  ⟨fun K => (He.ga K "_law_packet"), "_law_packet", "_law_packet", defArgs s__law_packet, defBody s__law_packet, defScope s__law_packet, []⟩,
  ⟨fun K => (He.ga K "_law_pen"), "_law_pen", "_law_pen", defArgs s__law_pen, defBody s__law_pen, defScope s__law_pen, []⟩,
  ⟨fun K => (He.ga K "law"), "law", "law", defArgs s_law, defBody s_law, defScope s_law, []⟩]
abbrev Rw : PySem.W.OpenRow := PySem.W.OpenLaw.row PySem.Challenge.rw_laterepair_k87_texts_of_packets
def xfs : List Xf := [xd_BadStream, xd_BadText]
abbrev hk : PySem.W.Hook := hookX 5 "/claim/cut.py" exs fns xfs
def ob (s : PySem.W.SharedT) : He.AlD := obsRX 5 "/claim/cut.py" exs fns xfs (HandSHeadRun.getT s)
theorem ob_eq (s : PySem.W.SharedT) : ob s = hk.obs s.abs := obsRX_eq (HandSHeadRun.getT_eq s)
def l0 : List PySem.Str := ["RepairError", "BadStream", "BadText", "Packet", "counted", "is_from_nought", "is_packet", "packets_text", "lines_of", "need_end", "packet_in", "read_packets", "_law_pen", "_law_draw", "_law_pick", "_law_heard", "_law_packet", "_law_bent"]
theorem run (w : World) : HandSHeadRun.RunEq Rw (PySem.W.view Rw.prog [22, 24, 25]) hk ob 30000 (l0) w := by
  intro os
  kernel_rfl
theorem fx_of {P : Program} {w : World} {K : PySem.W.Frag} {h : Heap} {mg : Str → Option Value} (hP : P.main.file = "/claim/cut.py") (htop : (P.main.scope.names.lookup ("super" : Str)).isSome = false) (X : K.In h) (G : h.Ns mainGlobals mg) (c : SaysX "/claim/cut.py" exs fns xfs K) : Fx P w K mg where
  glo_BadStream := He.glo_ok X G (c.fact 0 rfl)
  glo_BadText := He.glo_ok X G (c.fact 1 rfl)
  glo_Packet := He.glo_ok X G (c.fact 2 rfl)
  glo_RepairError := He.glo_ok X G (c.fact 3 rfl)
  glo__law_bent := He.glo_ok X G (c.fact 4 rfl)
  glo__law_draw := He.glo_ok X G (c.fact 5 rfl)
  glo__law_due := He.glo_ok X G (c.fact 6 rfl)
  glo__law_heard := He.glo_ok X G (c.fact 7 rfl)
  glo__law_one_right := He.glo_ok X G (c.fact 8 rfl)
  glo__law_packet := He.glo_ok X G (c.fact 9 rfl)
  glo__law_pen := He.glo_ok X G (c.fact 10 rfl)
  glo__law_pick := He.glo_ok X G (c.fact 11 rfl)
  glo_counted := He.glo_ok X G (c.fact 12 rfl)
  glo_is_from_nought := He.glo_ok X G (c.fact 13 rfl)
  glo_is_packet := He.glo_ok X G (c.fact 14 rfl)
  glo_law := He.glo_ok X G (c.fact 15 rfl)
  glo_lines_of := He.glo_ok X G (c.fact 16 rfl)
  glo_need_end := He.glo_ok X G (c.fact 17 rfl)
  glo_packet_in := He.glo_ok X G (c.fact 18 rfl)
  glo_packets_text := He.glo_ok X G (c.fact 19 rfl)
  glo_read_packets := He.glo_ok X G (c.fact 20 rfl)
  free_abs := He.free_ok X G (c.fact 21 rfl)
  free_all := He.free_ok X G (c.fact 22 rfl)
  free_bool := He.free_ok X G (c.fact 23 rfl)
  free_enumerate := He.free_ok X G (c.fact 24 rfl)
  free_int := He.free_ok X G (c.fact 25 rfl)
  free_isinstance := He.free_ok X G (c.fact 26 rfl)
  free_len := He.free_ok X G (c.fact 27 rfl)
  free_list := He.free_ok X G (c.fact 28 rfl)
  free_range := He.free_ok X G (c.fact 29 rfl)
  free_repr := He.free_ok X G (c.fact 30 rfl)
  free_str := He.free_ok X G (c.fact 31 rfl)
  free_tuple := He.free_ok X G (c.fact 32 rfl)
  cls_Packet := He.cls_ok (c.fact 33 rfl)
  isc_Packet := isc_of (c.fact 34 rfl)
  noat_Packet_parts := He.noat_ok (c.fact 35 rfl)
  noat_Packet_tick := He.noat_ok (c.fact 36 rfl)
  isf := isf_of (c.fact 37 rfl)
  me_Packet___eq__ := He.meth_ok (c.fact 38 rfl)
  fi_Packet___eq__ := c.fact 39 rfl
  me_Packet___str__ := He.meth_ok (c.fact 40 rfl)
  fi_Packet___str__ := c.fact 41 rfl
  mk_Packet := He.mkr_ok (c.fact 42 rfl)
  cm_Packet_read := cm_of (c.fact 43 rfl)
  exc_BadStream := exc_of (c.fact 44 rfl)
  exc_BadText := exc_of (c.fact 45 rfl)
  xno_BadStream_part := He.eqO_ok (c.fact 46 rfl)
  xno_BadText_line := He.eqO_ok (c.fact 47 rfl)
  xno_BadText_word := He.eqO_ok (c.fact 48 rfl)
  free_super := He.free_ok X G (c.fact 49 rfl)
  isxb_BadStream := c.fact 50 rfl
  isxb_BadText := c.fact 51 rfl
  cat := c.fact 52 rfl
  tabU := c.fact 53 rfl
  lam__law_due := c.fact 54 rfl
  lam__law_one_right := c.fact 55 rfl
  lam_law := c.fact 56 rfl
  lamb := c.fact 57 rfl
  catT_BadText := c.fact 58 rfl
  tabT_list_tuple := c.fact 59 rfl
  tab_Packet := c.fact 60 rfl
  tab_bool := c.fact 61 rfl
  tab_int := c.fact 62 rfl
  tab_list := c.fact 63 rfl
  tab_str := c.fact 64 rfl
  tab_tuple := c.fact 65 rfl
  nf_Packet_Packet := c.fact 66 rfl
  d_Packet___eq__ := c.def_ 0 rfl
  d_Packet___init__ := c.def_ 1 rfl
  d__law_draw := c.def_ 2 rfl
  d__law_pick := c.def_ 3 rfl
  d__law_bent := c.def_ 4 rfl
  d_counted := c.def_ 5 rfl
  d_Packet_read := c.def_ 6 rfl
  d__law_heard := c.def_ 7 rfl
  d__law_due := c.def_ 8 rfl
  d_Packet___str__ := c.def_ 9 rfl
  d_is_from_nought := c.def_ 10 rfl
  d_is_packet := c.def_ 11 rfl
  d_packets_text := c.def_ 12 rfl
  d_lines_of := c.def_ 13 rfl
  d_need_end := c.def_ 14 rfl
  d_packet_in := c.def_ 15 rfl
  d_read_packets := c.def_ 16 rfl
  d__law_one_right := c.def_ 17 rfl
  d__law_packet := c.def_ 18 rfl
  d__law_pen := c.def_ 19 rfl
  d_law := c.def_ 20 rfl
  xf_BadStream := c.xf hP htop 0 rfl
  xf_BadText := c.xf hP htop 1 rfl
end K87
set_option Elab.async false
set_option linter.all false
set_option maxRecDepth 100000
set_option maxHeartbeats 4000000
namespace K87
open RL PySem L2
/-- the pen's cell -/
def pen (S : List Int) (i g : Int) : Ce := .lst [.lst (S.map .int), .int i, .int g]
theorem at1 {α : Type} {a b : α} {l : List α} : atI (a :: b :: l) 1 = some b := by
  have : (1 : Int) < (l.length : Int) + 1 + 1 := by omega
  simp [atI, ixN, this]
theorem at0 {α : Type} {a : α} {l : List α} : atI (a :: l) 0 = some a := by simp [atI, ixN]
theorem at2 {α : Type} {a b c : α} {l : List α} : atI (a :: b :: c :: l) 2 = some c := by
  have : (2 : Int) < (l.length : Int) + 1 + 1 + 1 := by omega
  simp [atI, ixN, this]
theorem ix32 : ixN 3 2 = some 2 := rfl
theorem ix31 : ixN 3 1 = some 1 := rfl
theorem set_at {ws : List Ce} {p : Nat} {c d : Ce} (h : ws[p]? = some c) : (ws.set p d)[p]? = some d := by
  have : p < ws.length := (List.getElem?_eq_some_iff.mp h).1
  rw [List.getElem?_set_self this]
theorem mulL {a b : Int} (h1 : -18446744073709551616 < a) (h2 : a < 18446744073709551616) : cMul a b = true := by
  simp only [cMul, Bool.or_eq_true, Bool.and_eq_true, decide_eq_true_eq]
  left
  constructor <;> omega
theorem fPow_ok {ws : List Ce} {a b : Int} {k : Nat} (hb : b = (k : Nat)) (h1 : a.natAbs < 18446744073709551616) (h2 : k ≤ 1000000) : fPow ws (.int a) (.int b) = some (.int (a ^ k)) := by
  subst hb
  have q1 : (0 : Int) ≤ (k : Int) := by omega
  have q2 : (k : Int) ≤ 1000000 := by omega
  simp [fPow, fI, q1, q2, h1]
theorem fMul_ok {ws : List Ce} {a b : Int} (h : cMul a b = true) : fMul ws (.int a) (.int b) = some (.int (a * b)) := by
  simp [fMul, fI, h]
theorem draw {S : List Int} {p : Nat} {i g n : Int} {ws : List Ce} (hp : ws[p]? = some (pen S i g)) (hn : 0 < n) (hn2 : n < 100000) (hi : 0 ≤ i) (hi2 : i < 100000) (hg : 0 ≤ g) (hS : S.length ≤ 63) :
    ∃ d j h, m__law_draw [.cell p, .int n] ws = .ok (.int d) (ws.set p (pen S j h)) ∧ 0 ≤ d ∧ d < n ∧ 0 ≤ h ∧ i ≤ j ∧ j ≤ i + 1 := by
  have hp' : p < ws.length := (List.getElem?_eq_some_iff.mp hp).1
  by_cases h1 : 0 < g
  · refine ⟨g % n, i, g / n, ?_, Int.emod_nonneg _ (by omega), Int.emod_lt_of_pos _ hn, Int.ediv_nonneg hg (by omega), by omega, by omega⟩
    have hn3 : n < 1073741824 := by omega
    simp only [m__law_draw, g__law_draw, N__law_draw, bodyM, startD, sSeq, sIfS, sB, sNot, sNotV, sAnd, sAndT, sOrT, sOp, sVar, sC, sRet, sExpr, sSet, sAsg, sPar, sAug, sCons, sNil, sTup, sLst, sCall, sCB, fb1, ↓RL.bind_m, R.ofO_some, R.ofO_none, R.ofO, List.map_cons, List.map_nil, List.length_cons, List.length_nil, List.cons_append, List.nil_append, List.append_nil, List.replicate, List.set_cons_zero, List.set_cons_succ, List.getElem?_cons_zero, List.getElem?_cons_succ, Option.bind_some, Option.map_some, Option.bind_none, Option.map_none, if_true, if_false, Bool.false_eq_true, decide_true, decide_false, Nat.reduceAdd, Nat.reduceSub, Bool.not_true, Bool.not_false, sIf, sYes, sNext, sBad, tgName, tgTup, tgCons, tgNil, tupOf, seqOf, lstOf, ↓reduceIte, Nat.zero_le, Nat.reduceLeDiff, fIx, hp, pen, at2, fGt, fI, h1, decide_true, gInt, fMod, hn, fFdiv, hn3, Bool.and_self, tgItem, ix32]
    rw [fin_rtL (by simp)]
  · obtain ⟨c, hc⟩ : ∃ c : Int, (S = [] ∧ c = 57479 * i + 3273) ∨ (S ≠ [] ∧ atI (S.map D.int) (i % (S.length : Int)) = some (.int c)) := by
      by_cases e : S = []
      · exact ⟨_, .inl ⟨e, rfl⟩⟩
      · have h2 : 0 < S.length := List.length_pos_iff.mpr e
        have h3 := Int.emod_nonneg i (b := (S.length : Int)) (by omega)
        have h4 := Int.emod_lt_of_pos i (b := (S.length : Int)) (by omega)
        refine ⟨S[(i % (S.length : Int)).toNat]'(by omega), .inr ⟨e, ?_⟩⟩
        simp [atI, ixN, h3, h4]
    have hw : (ws.set p (pen S (i + 1) g))[p]? = some (pen S (i + 1) g) := set_at hp
    generalize hws : ws.set p (pen S (i + 1) g) = ws1 at hw
    have hm1 : cMul 57479 i = true := mulL (by omega) (by omega)
    have hm2 : cMul 51505 i = true := mulL (by omega) (by omega)
    have hm3 : cMul 2 i = true := mulL (by omega) (by omega)
    have hm4 : cMul 57815 i = true := mulL (by omega) (by omega)
    have hm5 : cMul (57815 * i) i = true := mulL (by omega) (by omega)
    have hb1 : (c % 2147483497 + 51505 * i + 967).natAbs < 18446744073709551616 := by omega
    have k1 : ∀ ws : List Ce, fPow ws (.int (c % 2147483497 + 51505 * i + 967)) (.int 5) = some (.int ((c % 2147483497 + 51505 * i + 967) ^ 5)) := fun ws => fPow_ok (k := 5) rfl hb1 (by omega)
    obtain ⟨y, hy⟩ : ∃ y, y = ((c % 2147483497 + 51505 * i + 967) ^ 5) % 2147483563 := ⟨_, rfl⟩
    have hy1 : 0 ≤ y := by rw [hy]; exact Int.emod_nonneg _ (by omega)
    have hy2 : y < 2147483563 := by rw [hy]; exact Int.emod_lt_of_pos _ (by omega)
    have hm6 : cMul y (2 * i + 909) = true := mulL (by omega) (by omega)
    have hb2 : (y * (2 * i + 909) + 57815 * i * i + 591).natAbs < 18446744073709551616 := by
      have q1 : 0 ≤ y * (2 * i + 909) := Int.mul_nonneg hy1 (by omega)
      have q2 : y * (2 * i + 909) ≤ 2147483563 * 200909 := Int.mul_le_mul (by omega) (by omega) (by omega) (by omega)
      have q3 : 0 ≤ 57815 * i * i := Int.mul_nonneg (by omega) hi
      have q4 : 57815 * i * i ≤ 5781500000 * 100000 := Int.mul_le_mul (by omega) (by omega) (by omega) (by omega)
      omega
    have k2 : ∀ ws : List Ce, fPow ws (.int (y * (2 * i + 909) + 57815 * i * i + 591)) (.int 3) = some (.int ((y * (2 * i + 909) + 57815 * i * i + 591) ^ 3)) := fun ws => fPow_ok (k := 3) rfl hb2 (by omega)
    have hmix : ∀ z : Int, 0 ≤ z % 2147483579 / 32 % n ∧ z % 2147483579 / 32 % n < n := fun z => ⟨Int.emod_nonneg _ (by omega), Int.emod_lt_of_pos _ hn⟩
    rcases hc with ⟨rfl, rfl⟩ | ⟨hne, hat⟩
    · refine ⟨(y * (2 * i + 909) + 57815 * i * i + 591) ^ 3 % 2147483579 / 32 % n, i + 1, g, ?_, (hmix _).1, (hmix _).2, hg, by omega, by omega⟩
      have hlen : ¬ i < ((0 : Nat) : Int) := by omega
      have q32 : (0 : Int) < 32 := by omega
      have r32 : (32 : Int) < 1073741824 := by omega
      have r1 : (0 : Int) < 2147483497 := by omega
      have r2 : (0 : Int) < 2147483563 := by omega
      have r3 : (0 : Int) < 2147483579 := by omega
      have hh := hws
      have hh2 := hw
      have hne0 := ne_nil_ints (ws := ws1) []
      simp only [pen, List.map_nil] at hh hh2 hne0
      simp only [m__law_draw, g__law_draw, N__law_draw, bodyM, startD, sSeq, sIfS, sB, sNot, sNotV, sAnd, sAndT, sOrT, sOp, sVar, sC, sRet, sExpr, sSet, sAsg, sPar, sAug, sCons, sNil, sTup, sLst, sCall, sCB, fb1, ↓RL.bind_m, R.ofO_some, R.ofO_none, R.ofO, List.map_cons, List.map_nil, List.length_cons, List.length_nil, List.cons_append, List.nil_append, List.append_nil, List.replicate, List.set_cons_zero, List.set_cons_succ, List.getElem?_cons_zero, List.getElem?_cons_succ, Option.bind_some, Option.map_some, Option.bind_none, Option.map_none, if_true, if_false, Bool.false_eq_true, decide_true, decide_false, Nat.reduceAdd, Nat.reduceSub, Bool.not_true, Bool.not_false, sIf, sYes, sNext, sBad, tgName, tgTup, tgCons, tgNil, tupOf, seqOf, lstOf, ↓reduceIte, Nat.zero_le, Nat.reduceLeDiff, fIx, hp, pen, at0, at1, at2, fGt, fI, h1, gInt, fMod, fFdiv, tgItem, ix32, ix31, fAdd, hm1, fMul_ok, hh, hh2, hne0, fLt, hlen, gLen, hm2, k1, r1, r2, r3, ← hy, hm3, hm6, hm4, hm5, k2, q32, r32, hn, Bool.and_self]
      rw [fin_rtL (by rw [← hws]; simp)]
      try simp only [← hws, pen, List.map_nil]
    · have hh := hws
      have hh2 := hw
      have hne0 := ne_nil_ints (ws := ws1) S
      have hlp : (0 : Int) < (S.length : Int) := by
        have := List.length_pos_iff.mpr hne
        omega
      have q32 : (0 : Int) < 32 := by omega
      have r32 : (32 : Int) < 1073741824 := by omega
      have r1 : (0 : Int) < 2147483497 := by omega
      have r2 : (0 : Int) < 2147483563 := by omega
      have r3 : (0 : Int) < 2147483579 := by omega
      have p18 : ∀ ws : List Ce, fPow ws (.int 10) (.int 18) = some (.int 1000000000000000000) := fun ws => fPow_ok (k := 18) rfl (by omega) (by omega)
      simp only [pen] at hh hh2 hne0
      by_cases hbig : i < (S.length : Int) ∧ 1000000000000000000 ≤ (if c < 0 then -c else c)
      · obtain ⟨b1, b2⟩ := hbig
        have hm7 : cMul 2 ((if c < 0 then -c else c) - 1000000000000000000) = true := mulL (by omega) (by omega)
        have hn3 : n < 1073741824 := by omega
        obtain ⟨v, hv⟩ : ∃ v : Int, v = 2 * ((if c < 0 then -c else c) - 1000000000000000000) + (if decide (c < 0) = true then 1 else 0) := ⟨_, rfl⟩
        have hv0 : 0 ≤ v := by
          rw [hv]
          split <;> split <;> omega
        refine ⟨v % n, i + 1, v / n, ?_, Int.emod_nonneg _ (by omega), Int.emod_lt_of_pos _ hn, Int.ediv_nonneg hv0 (by omega), by omega, by omega⟩
        simp only [m__law_draw, g__law_draw, N__law_draw, bodyM, startD, sSeq, sIfS, sB, sNot, sNotV, sAnd, sAndT, sOrT, sOp, sVar, sC, sRet, sExpr, sSet, sAsg, sPar, sAug, sCons, sNil, sTup, sLst, sCall, sCB, fb1, ↓RL.bind_m, R.ofO_some, R.ofO_none, R.ofO, List.map_cons, List.map_nil, List.length_cons, List.length_nil, List.cons_append, List.nil_append, List.append_nil, List.replicate, List.set_cons_zero, List.set_cons_succ, List.getElem?_cons_zero, List.getElem?_cons_succ, Option.bind_some, Option.map_some, Option.bind_none, Option.map_none, if_true, if_false, Bool.false_eq_true, decide_true, decide_false, Nat.reduceAdd, Nat.reduceSub, Bool.not_true, Bool.not_false, sIf, sYes, sNext, sBad, tgName, tgTup, tgCons, tgNil, tupOf, seqOf, lstOf, ↓reduceIte, Nat.zero_le, Nat.reduceLeDiff, fIx, hp, pen, at0, at1, at2, fGt, fI, h1, gInt, fMod, fFdiv, tgItem, ix32, ix31, fAdd, fSub, hm1, fMul_ok, hh, hh2, hne0, hne, fLt, fGe, gAbs, gLen, b1, b2, p18, hm7, List.length_map, hlp, hat, ← hv, hn, hn3, Bool.and_self]
        rw [fin_rtL (by rw [← hws]; simp)]
        simp only [← hws, pen, List.set_set]
      · refine ⟨(y * (2 * i + 909) + 57815 * i * i + 591) ^ 3 % 2147483579 / 32 % n, i + 1, g, ?_, (hmix _).1, (hmix _).2, hg, by omega, by omega⟩
        by_cases b1 : i < (S.length : Int)
        · have b2 : ¬ 1000000000000000000 ≤ (if c < 0 then -c else c) := fun z => hbig ⟨b1, z⟩
          simp only [m__law_draw, g__law_draw, N__law_draw, bodyM, startD, sSeq, sIfS, sB, sNot, sNotV, sAnd, sAndT, sOrT, sOp, sVar, sC, sRet, sExpr, sSet, sAsg, sPar, sAug, sCons, sNil, sTup, sLst, sCall, sCB, fb1, ↓RL.bind_m, R.ofO_some, R.ofO_none, R.ofO, List.map_cons, List.map_nil, List.length_cons, List.length_nil, List.cons_append, List.nil_append, List.append_nil, List.replicate, List.set_cons_zero, List.set_cons_succ, List.getElem?_cons_zero, List.getElem?_cons_succ, Option.bind_some, Option.map_some, Option.bind_none, Option.map_none, if_true, if_false, Bool.false_eq_true, decide_true, decide_false, Nat.reduceAdd, Nat.reduceSub, Bool.not_true, Bool.not_false, sIf, sYes, sNext, sBad, tgName, tgTup, tgCons, tgNil, tupOf, seqOf, lstOf, ↓reduceIte, Nat.zero_le, Nat.reduceLeDiff, fIx, hp, pen, at0, at1, at2, fGt, fI, h1, gInt, fMod, fFdiv, tgItem, ix32, ix31, fAdd, hm1, fMul_ok, hh, hh2, hne0, hne, fLt, fGe, gAbs, gLen, b1, b2, p18, List.length_map, hlp, hat, hm2, k1, r1, r2, r3, ← hy, hm3, hm6, hm4, hm5, k2, q32, r32, hn, Bool.and_self]
          rw [fin_rtL (by rw [← hws]; simp)]
          try simp only [← hws, pen]
        · simp only [m__law_draw, g__law_draw, N__law_draw, bodyM, startD, sSeq, sIfS, sB, sNot, sNotV, sAnd, sAndT, sOrT, sOp, sVar, sC, sRet, sExpr, sSet, sAsg, sPar, sAug, sCons, sNil, sTup, sLst, sCall, sCB, fb1, ↓RL.bind_m, R.ofO_some, R.ofO_none, R.ofO, List.map_cons, List.map_nil, List.length_cons, List.length_nil, List.cons_append, List.nil_append, List.append_nil, List.replicate, List.set_cons_zero, List.set_cons_succ, List.getElem?_cons_zero, List.getElem?_cons_succ, Option.bind_some, Option.map_some, Option.bind_none, Option.map_none, if_true, if_false, Bool.false_eq_true, decide_true, decide_false, Nat.reduceAdd, Nat.reduceSub, Bool.not_true, Bool.not_false, sIf, sYes, sNext, sBad, tgName, tgTup, tgCons, tgNil, tupOf, seqOf, lstOf, ↓reduceIte, Nat.zero_le, Nat.reduceLeDiff, fIx, hp, pen, at0, at1, at2, fGt, fI, h1, gInt, fMod, fFdiv, tgItem, ix32, ix31, fAdd, hm1, fMul_ok, hh, hh2, hne0, hne, fLt, gLen, b1, List.length_map, hlp, hat, hm2, k1, r1, r2, r3, ← hy, hm3, hm6, hm4, hm5, k2, q32, r32, hn, Bool.and_self]
          rw [fin_rtL (by rw [← hws]; simp)]
          try simp only [← hws, pen]
end K87
set_option Elab.async false
set_option linter.all false
set_option maxRecDepth 100000
set_option maxHeartbeats 4000000
namespace K87
open RL PySem L2
/-- the store ws0 but for the pen at p, which drew at most j numbers -/
def Dr (S : List Int) (p : Nat) (ws0 : List Ce) (j : Int) (ws : List Ce) : Prop := p < ws0.length ∧ S.length ≤ 63 ∧ ∃ k h, ws = ws0.set p (pen S k h) ∧ 0 ≤ k ∧ k ≤ j ∧ 0 ≤ h
section
variable {S : List Int} {p : Nat} {ws0 ws ws' : List Ce} {j j' : Int}
theorem Dr.len (h : Dr S p ws0 j ws) : ws.length = ws0.length := by
  obtain ⟨_, _, k, g, rfl, _⟩ := h
  simp
theorem Dr.up (h : Dr S p ws0 j ws) (hj : j ≤ j') : Dr S p ws0 j' ws := by
  obtain ⟨a, b, k, g, c, d, e, f⟩ := h
  exact ⟨a, b, k, g, c, d, by omega, f⟩
theorem Dr.at (h : Dr S p ws0 j ws) {q : Nat} (hq : q ≠ p) : ws[q]? = ws0[q]? := by
  obtain ⟨_, _, k, g, rfl, _⟩ := h
  rw [List.getElem?_set_ne (Ne.symm hq)]
theorem Dr.app (h : Dr S p ws0 j ws) (xs : List Ce) : Dr S p (ws0 ++ xs) j (ws ++ xs) := by
  obtain ⟨a, b, k, g, rfl, d⟩ := h
  refine ⟨by rw [List.length_append]; omega, b, k, g, ?_, d⟩
  rw [List.set_append_left _ _ a]
theorem Dr.unapp {xs : List Ce} (a : p < ws0.length) (h : Dr S p (ws0 ++ xs) j ws) : ∃ ws1, ws = ws1 ++ xs ∧ Dr S p ws0 j ws1 := by
  obtain ⟨_, b, k, g, e, d⟩ := h
  exact ⟨ws0.set p (pen S k g), by rw [e, List.set_append_left _ _ a], a, b, k, g, rfl, d⟩
theorem below_ints (n : Nat) : ∀ S : List Int, belows n (S.map D.int) = true
  | [] => rfl
  | a :: S => by simp [belows, below, below_ints n S]
theorem below_pen (n : Nat) (S : List Int) (i g : Int) : belowC n (pen S i g) = true := by simp [pen, belowC, belows, below, below_ints]
theorem Dr.cut (h : Dr S p ws0 j ws) (h' : Dr S p ws0 j' ws') (xs : List Ce) : cutOk ws (ws' ++ xs) := by
  intro i hi
  have l1 := h.len
  have l2 := h'.len
  rw [List.getElem?_append_left (by omega)]
  by_cases e : i = p
  · subst e
    obtain ⟨a, _, k, g, rfl, _⟩ := h'
    exact .inr ⟨_, by rw [List.getElem?_set_self a], below_pen ..⟩
  · exact .inl (by rw [h.at e, h'.at e])
/-- a def's end -/
theorem Dr.fin (h : Dr S p ws0 j ws) (h' : Dr S p ws0 j' ws') {xs : List Ce} {ρ : List (Option D)} {d d' : D} (hd : frzD ws.length (ws' ++ xs) d = some d') (h0 : xs = [] → d' = d) : fin false ws (.ok (ρ, .rt d) (ws' ++ xs)) = .ok d' ws' := by
  have l1 := h.len
  have l2 := h'.len
  by_cases e : xs = []
  · subst e
    rw [h0 rfl]
    rw [List.append_nil]
    exact fin_rtL (by omega)
  · have : (ws' ++ xs).length ≠ ws.length := by
      have := List.length_pos_iff.mpr e
      rw [List.length_append]
      omega
    have t : (ws' ++ xs).take ws.length = ws' := by
      rw [l1, ← l2]
      simp
    simp only [RL.fin, flR, R.bind_ok, frzR, this, if_false, hd, h.cut h' xs, if_true, t, Bool.false_eq_true]
theorem Dr.fin0 (h : Dr S p ws0 j ws) (h' : Dr S p ws0 j' ws') {ρ : List (Option D)} {d : D} : RL.fin false ws (.ok (ρ, .rt d) ws') = .ok d ws' := fin_rtL (by rw [h.len, h'.len])
theorem drw {n : Int} (h : Dr S p ws0 j ws) (hn : 0 < n) (hn2 : n < 100000) (hj : j < 100000) : ∃ d ws', m__law_draw [.cell p, .int n] ws = .ok (.int d) ws' ∧ Dr S p ws0 (j + 1) ws' ∧ 0 ≤ d ∧ d < n := by
  obtain ⟨a, b, k, g, rfl, c, d, e⟩ := h
  obtain ⟨x, k', g', e1, e2, e3, e4, e5, e6⟩ := draw (S := S) (p := p) (i := k) (g := g) (n := n) (ws := ws0.set p (pen S k g)) (by rw [List.getElem?_set_self a]) hn hn2 c (by omega) e b
  refine ⟨x, _, e1, ⟨a, b, k', g', by rw [List.set_set], by omega, by omega, e4⟩, e2, e3⟩
theorem atI_mem {l : List D} {d : Int} (h0 : 0 ≤ d) (h1 : d < (l.length : Int)) : ∃ x, atI l d = some x ∧ x ∈ l := by
  refine ⟨l[d.toNat]'(by omega), ?_, List.getElem_mem _⟩
  simp [atI, ixN, h0, h1]
theorem pick {l : List D} (h : Dr S p ws0 j ws) (hl : 0 < l.length) (hl2 : l.length < 1000) (hj : j < 100000) : ∃ x ws', m__law_pick [.cell p, .lst l] ws = .ok x ws' ∧ Dr S p ws0 (j + 1) ws' ∧ x ∈ l := by
  obtain ⟨d, ws1, e1, D1, b1, b2⟩ := drw h (n := (l.length : Int)) (by omega) (by omega) hj
  obtain ⟨x, h1, h2⟩ := atI_mem b1 b2
  refine ⟨x, ws1, ?_, D1, h2⟩
  simp only [m__law_pick, g__law_pick, N__law_pick, bodyM, startD, sSeq, sIfS, sB, sNot, sNotV, sAnd, sAndT, sOrT, sOp, sVar, sC, sRet, sExpr, sSet, sAsg, sPar, sAug, sCons, sNil, sTup, sLst, sCall, sCB, fb1, ↓RL.bind_m, R.ofO_some, R.ofO_none, R.ofO, List.map_cons, List.map_nil, List.length_cons, List.length_nil, List.cons_append, List.nil_append, List.append_nil, List.replicate, List.set_cons_zero, List.set_cons_succ, List.getElem?_cons_zero, List.getElem?_cons_succ, Option.bind_some, Option.map_some, Option.bind_none, Option.map_none, if_true, if_false, Bool.false_eq_true, decide_true, decide_false, Nat.reduceAdd, Nat.reduceSub, Bool.not_true, Bool.not_false, sIf, sYes, sNext, sBad, tgName, tgTup, tgCons, tgNil, tupOf, seqOf, lstOf, ↓reduceIte, Nat.zero_le, Nat.reduceLeDiff, gLen, e1, fIx, h1]
  rw [h.fin0 D1]
end
end K87
set_option Elab.async false
set_option linter.all false
set_option maxRecDepth 100000
set_option maxHeartbeats 4000000
namespace K87
open RL PySem L2 TL
def dW (w : List Nat) : D := .str (Sx w)
def dWs (l : List (List Nat)) : D := .lst (l.map dW)
/-- a BadText -/
def bt (l w : Int) : Ex := ⟨"BadText", ["word", "line"], [.int w, .int l]⟩
/-- what a word tells -/
def cnt (w : Option (List Nat)) : Option Nat := match w with
  | some w => if isNum w then some (NumText.digitsVal w) else none
  | none => none
section
variable {ws : List Ce}
theorem eq_str (a b : List Nat) : fEqS ws (dW a) (dW b) = some (.bl (decide (a = b))) := by
  have : (Sx a = Sx b) = (a = b) := propext ⟨fun h => congrArg (fun z : Str => z.cps.toList) h, fun h => by rw [h]⟩
  simp only [fEqS, dW, scalEq, Option.map_some]
  congr 2
  exact decide_eq_decide.mpr (by rw [this])
theorem ne_str (a b : List Nat) : fNeS ws (dW a) (dW b) = some (.bl (!decide (a = b))) := by
  have : (Sx a = Sx b) = (a = b) := propext ⟨fun h => congrArg (fun z : Str => z.cps.toList) h, fun h => by rw [h]⟩
  simp only [fNeS, dW, scalEq, Option.map_some]
  congr 3
  exact decide_eq_decide.mpr (by rw [this])
theorem s_empty : D.str "" = dW [] := by decide +kernel
theorem s_zero : D.str "0" = dW [48] := by decide +kernel
theorem s_minus : D.str "-" = dW [45] := by decide +kernel
theorem s_colon : D.str ":" = dW [58] := by decide +kernel
theorem digits_str : tl ("0123456789" : Str) = [48, 49, 50, 51, 52, 53, 54, 55, 56, 57] := by decide +kernel
theorem in_digits (c : Nat) : decide (c ∈ tl ("0123456789" : Str)) = decide (48 ≤ c ∧ c ≤ 57) := by
  rw [digits_str]
  refine decide_eq_decide.mpr ?_
  simp only [List.mem_cons, List.not_mem_nil, or_false]
  omega
/-- are all signs figures -/
theorem lc_figs (w : List Nat) (hw : w.length ≤ 100000) {ρ : List (Option D)} (hρ : 3 < ρ.length) :
    loopLc (signsD (Sx w)) none (tgName 3) sYes (sOp (fInStr false) (sVar 3) (sC (.str "0123456789"))) ρ (signsD (Sx w)) [] ws = .ok ((w.map fun c => decide (48 ≤ c ∧ c ≤ 57)).map .bl) ws := by
  have z := lc_map (src := none) (t := tgName 3) (el := sOp (fInStr false) (sVar 3) (sC (.str "0123456789"))) (ρ := ρ) (ws := ws) (all := signsD (Sx w)) (f := fun d => match d with
    | .str s => .bl (decide (48 ≤ (tl s).headD 0 ∧ (tl s).headD 0 ≤ 57))
    | d => d) trivial (signsD (Sx w)) [] (by simpa [signsD] using hw) (by
      intro d hd
      obtain ⟨c, hc, rfl⟩ := List.mem_map.mp hd
      refine ⟨ρ.set 3 (some (.str ⟨#[c]⟩)), rfl, ?_⟩
      have e : (ρ.set 3 (some (D.str ⟨#[c]⟩)))[3]? = some (some (.str ⟨#[c]⟩)) := List.getElem?_set_self hρ
      simp only [sOp, sVar, e, sC, R.bind_ok, in_sign, in_digits, R.ofO_some, Bool.false_eq_true, if_false]
      rfl)
  rw [z]
  simp [signsD, List.map_map, Function.comp_def, tl]
  exact fun _ _ => rfl
theorem bls_map : ∀ l : List Bool, blsOf (l.map .bl) = some l
  | [] => rfl
  | b :: l => by simp [blsOf, bls_map l]
theorem len_dWs (l : List (List Nat)) : gLen ws (dWs l) = some (.int (l.length : Nat)) := by simp [gLen, dWs, seqOf]
theorem end_bt {l w : Int} : fin false ws (.ex ⟨"BadText", ["word", "line"], [.int w, .int l]⟩ ws) = .ex (bt l w) ws := fin_exL rfl
theorem counted_ok {l : List (List Nat)} {k : Nat} (hl : ∀ w ∈ l, w.length ≤ 100) : m_counted [dWs l, .int (k : Nat)] ws = match cnt l[k]? with
    | some n => .ok (.int (n : Nat)) ws
    | none => .ex (bt 0 k) ws := by
  have hlt : decide ((k : Int) < (l.length : Int)) = decide (k < l.length) := decide_eq_decide.mpr (by omega)
  by_cases hk : k < l.length
  · have hw := hl l[k] (List.getElem_mem _)
    have e : l[k]? = some l[k] := List.getElem?_eq_getElem hk
    generalize l[k] = w at hw e
    have hix : fIx ws (dWs l) (.int (k : Nat)) = some (dW w) := by
      simp only [fIx, dWs, seqOf, Option.bind_some, atI_n, List.getElem?_map, e, Option.map_some]
    have q : sLc [3] (sItS (sVar 2)) (tgName 3) sYes (sOp (fInStr false) (sVar 3) (sC (.str "0123456789"))) [some (dWs l), some (.int (k : Nat)), some (dW w), none] ws = .ok (.lst ((w.map fun c => decide (48 ≤ c ∧ c ≤ 57)).map .bl)) ws := by
      have z := lc_figs (ws := ws) w (by omega) (ρ := wipeD [some (dWs l), some (.int (k : Nat)), some (dW w), none] [3]) (by simp [wipeD])
      simp only [sLc, sLcG, sItS, sVar, dW, List.getElem?_cons_zero, List.getElem?_cons_succ, R.bind_ok] at z ⊢
      rw [z]
      rfl
    have hal : (lstOf ws (D.lst ((w.map fun c => decide (48 ≤ c ∧ c ≤ 57)).map .bl))).bind (fun l => (blsOf l).map fun bs => D.bl (bs.all id)) = some (.bl (decide (NumText.AllDigits w))) := by
      simp only [lstOf, Option.bind_some, bls_map, Option.map_some]
      congr 2
      rw [Bool.eq_iff_iff, decide_eq_true_iff, List.all_eq_true]
      simp [NumText.AllDigits]
    simp only [m_counted, g_counted, N_counted, bodyM, startD, sSeq, sIfS, sB, sNot, sNotV, sAnd, sAndT, sOrT, sOp, sVar, sC, sRet, sExpr, sSet, sAsg, sPar, sAug, sCons, sNil, sTup, sLst, sCall, sCB, fb1, ↓RL.bind_m, R.ofO_some, R.ofO_none, R.ofO, List.map_cons, List.map_nil, List.length_cons, List.length_nil, List.cons_append, List.nil_append, List.append_nil, List.replicate, List.set_cons_zero, List.set_cons_succ, List.getElem?_cons_zero, List.getElem?_cons_succ, Option.bind_some, Option.map_some, Option.bind_none, Option.map_none, if_true, if_false, Bool.false_eq_true, decide_true, decide_false, Nat.reduceAdd, Nat.reduceSub, Bool.not_true, Bool.not_false, sIf, sYes, sNext, sBad, tgName, tgTup, tgCons, tgNil, tupOf, seqOf, lstOf, ↓reduceIte, Nat.zero_le, Nat.reduceLeDiff, len_dWs, fLt, fI, hlt, hk, hix, s_empty, eq_str]
    by_cases h0 : w = []
    · subst h0
      have c0 : cnt (some []) = none := by simp [cnt, isNum]
      simp only [bodyM, startD, sSeq, sIfS, sB, sNot, sNotV, sAnd, sAndT, sOrT, sOp, sVar, sC, sRet, sExpr, sSet, sAsg, sPar, sAug, sCons, sNil, sTup, sLst, sCall, sCB, fb1, ↓RL.bind_m, R.ofO_some, R.ofO_none, R.ofO, List.map_cons, List.map_nil, List.length_cons, List.length_nil, List.cons_append, List.nil_append, List.append_nil, List.replicate, List.set_cons_zero, List.set_cons_succ, List.getElem?_cons_zero, List.getElem?_cons_succ, Option.bind_some, Option.map_some, Option.bind_none, Option.map_none, if_true, if_false, Bool.false_eq_true, decide_true, decide_false, Nat.reduceAdd, Nat.reduceSub, Bool.not_true, Bool.not_false, sIf, sYes, sNext, sBad, tgName, tgTup, tgCons, tgNil, tupOf, seqOf, lstOf, ↓reduceIte, Nat.zero_le, Nat.reduceLeDiff, e, c0, sRaise, and_self, R.bind_ex, List.reverse_cons, List.reverse_nil, Nat.reduceLeDiff, end_bt]
      try rfl
    · generalize (w.map fun c => decide (48 ≤ c ∧ c ≤ 57)).map D.bl = F at q hal
      have hal : gAll ws (D.lst F) = some (.bl (decide (NumText.AllDigits w))) := hal
      by_cases h1 : NumText.AllDigits w
      · obtain ⟨a, v, hav⟩ := List.exists_cons_of_ne_nil h0
        have hsz : (Sx w).length ≤ 100000 := by rw [Sx_len]; omega
        have hix0 : fIx ws (dW w) (.int 0) = some (dW [a]) := by
          simp only [fIx, dW, hsz, if_true]
          rw [hav]
          simp only [Sx, at0, Option.map_some]
        have hln : gLen ws (dW w) = some (.int (w.length : Nat)) := by
          simp only [gLen, dW, hsz, if_true]
          rw [Sx_len]
        have hgt : decide ((1 : Int) < (w.length : Nat)) = decide (v ≠ []) := decide_eq_decide.mpr (by
          rw [hav]
          cases v <;> simp <;> omega)
        have ha : ([a] = [48]) = (a = 48) := by simp
        by_cases h2 : a = 48 ∧ v ≠ []
        · have c0 : cnt (some w) = none := by
            simp only [cnt]
            rw [if_neg]
            intro hn
            have := hn.2.2 (by simp [hav, h2.1])
            rw [hav] at this
            simp at this
            exact h2.2 this
          obtain ⟨rfl, hv⟩ := h2
          simp only [bodyM, startD, sSeq, sIfS, sB, sNot, sNotV, sAnd, sAndT, sOrT, sOp, sVar, sC, sRet, sExpr, sSet, sAsg, sPar, sAug, sCons, sNil, sTup, sLst, sCall, sCB, fb1, ↓RL.bind_m, R.ofO_some, R.ofO_none, R.ofO, List.map_cons, List.map_nil, List.length_cons, List.length_nil, List.cons_append, List.nil_append, List.append_nil, List.replicate, List.set_cons_zero, List.set_cons_succ, List.getElem?_cons_zero, List.getElem?_cons_succ, Option.bind_some, Option.map_some, Option.bind_none, Option.map_none, if_true, if_false, Bool.false_eq_true, decide_true, decide_false, Nat.reduceAdd, Nat.reduceSub, Bool.not_true, Bool.not_false, sIf, sYes, sNext, sBad, tgName, tgTup, tgCons, tgNil, tupOf, seqOf, lstOf, ↓reduceIte, Nat.zero_le, Nat.reduceLeDiff, h0, q, hal, h1, hix0, s_zero, eq_str, hln, fGt, fI, hgt, hv, ne_eq, not_false_eq_true, e, c0, sRaise, and_self, R.bind_ex, List.reverse_cons, List.reverse_nil, Nat.reduceLeDiff, end_bt]
        · have hn : isNum w := ⟨h0, h1, fun z => by
            rw [hav] at z ⊢
            simp at z
            by_cases hv : v = []
            · simp [hv]
            · exact absurd ⟨z, hv⟩ h2⟩
          have c0 : cnt (some w) = some (NumText.digitsVal w) := by
            simp only [cnt]
            rw [if_pos hn]
          have hi : gIntS ws (dW w) = some (.int (NumText.digitsVal w : Nat)) := int_of (ws := ws) hn (by omega)
          by_cases h3 : a = 48
          · have hv : v = [] := by
              by_cases hv : v = []
              · exact hv
              · exact absurd ⟨h3, hv⟩ h2
            subst h3 hv
            simp only [bodyM, startD, sSeq, sIfS, sB, sNot, sNotV, sAnd, sAndT, sOrT, sOp, sVar, sC, sRet, sExpr, sSet, sAsg, sPar, sAug, sCons, sNil, sTup, sLst, sCall, sCB, fb1, ↓RL.bind_m, R.ofO_some, R.ofO_none, R.ofO, List.map_cons, List.map_nil, List.length_cons, List.length_nil, List.cons_append, List.nil_append, List.append_nil, List.replicate, List.set_cons_zero, List.set_cons_succ, List.getElem?_cons_zero, List.getElem?_cons_succ, Option.bind_some, Option.map_some, Option.bind_none, Option.map_none, if_true, if_false, Bool.false_eq_true, decide_true, decide_false, Nat.reduceAdd, Nat.reduceSub, Bool.not_true, Bool.not_false, sIf, sYes, sNext, sBad, tgName, tgTup, tgCons, tgNil, tupOf, seqOf, lstOf, ↓reduceIte, Nat.zero_le, Nat.reduceLeDiff, h0, q, hal, h1, hix0, s_zero, eq_str, hln, fGt, fI, hgt, ne_eq, not_true_eq_false, e, c0, hi, fin_rt]
          · simp only [bodyM, startD, sSeq, sIfS, sB, sNot, sNotV, sAnd, sAndT, sOrT, sOp, sVar, sC, sRet, sExpr, sSet, sAsg, sPar, sAug, sCons, sNil, sTup, sLst, sCall, sCB, fb1, ↓RL.bind_m, R.ofO_some, R.ofO_none, R.ofO, List.map_cons, List.map_nil, List.length_cons, List.length_nil, List.cons_append, List.nil_append, List.append_nil, List.replicate, List.set_cons_zero, List.set_cons_succ, List.getElem?_cons_zero, List.getElem?_cons_succ, Option.bind_some, Option.map_some, Option.bind_none, Option.map_none, if_true, if_false, Bool.false_eq_true, decide_true, decide_false, Nat.reduceAdd, Nat.reduceSub, Bool.not_true, Bool.not_false, sIf, sYes, sNext, sBad, tgName, tgTup, tgCons, tgNil, tupOf, seqOf, lstOf, ↓reduceIte, Nat.zero_le, Nat.reduceLeDiff, h0, q, hal, h1, hix0, s_zero, eq_str, ha, h3, e, c0, hi, fin_rt]
      · have c0 : cnt (some w) = none := by
          simp only [cnt]
          rw [if_neg]
          exact fun hn => h1 hn.2.1
        simp only [bodyM, startD, sSeq, sIfS, sB, sNot, sNotV, sAnd, sAndT, sOrT, sOp, sVar, sC, sRet, sExpr, sSet, sAsg, sPar, sAug, sCons, sNil, sTup, sLst, sCall, sCB, fb1, ↓RL.bind_m, R.ofO_some, R.ofO_none, R.ofO, List.map_cons, List.map_nil, List.length_cons, List.length_nil, List.cons_append, List.nil_append, List.append_nil, List.replicate, List.set_cons_zero, List.set_cons_succ, List.getElem?_cons_zero, List.getElem?_cons_succ, Option.bind_some, Option.map_some, Option.bind_none, Option.map_none, if_true, if_false, Bool.false_eq_true, decide_true, decide_false, Nat.reduceAdd, Nat.reduceSub, Bool.not_true, Bool.not_false, sIf, sYes, sNext, sBad, tgName, tgTup, tgCons, tgNil, tupOf, seqOf, lstOf, ↓reduceIte, Nat.zero_le, Nat.reduceLeDiff, h0, q, hal, h1, e, c0, sRaise, and_self, R.bind_ex, List.reverse_cons, List.reverse_nil, Nat.reduceLeDiff, end_bt]
  · have e : l[k]? = none := by simp at hk; simp [hk]
    simp only [m_counted, g_counted, N_counted, bodyM, startD, sSeq, sIfS, sB, sNot, sNotV, sAnd, sAndT, sOrT, sOp, sVar, sC, sRet, sExpr, sSet, sAsg, sPar, sAug, sCons, sNil, sTup, sLst, sCall, sCB, fb1, ↓RL.bind_m, R.ofO_some, R.ofO_none, R.ofO, List.map_cons, List.map_nil, List.length_cons, List.length_nil, List.cons_append, List.nil_append, List.append_nil, List.replicate, List.set_cons_zero, List.set_cons_succ, List.getElem?_cons_zero, List.getElem?_cons_succ, Option.bind_some, Option.map_some, Option.bind_none, Option.map_none, if_true, if_false, Bool.false_eq_true, decide_true, decide_false, Nat.reduceAdd, Nat.reduceSub, Bool.not_true, Bool.not_false, sIf, sYes, sNext, sBad, tgName, tgTup, tgCons, tgNil, tupOf, seqOf, lstOf, ↓reduceIte, Nat.zero_le, Nat.reduceLeDiff, len_dWs, fLt, fI, hlt, hk, s_empty, eq_str, e, cnt, sRaise, and_self, R.bind_ex, List.reverse_cons, List.reverse_nil, Nat.reduceLeDiff, end_bt]
    try rfl
end
end K87
set_option Elab.async false
set_option linter.all false
set_option maxRecDepth 100000
set_option maxHeartbeats 4000000
namespace K87
open RL PySem L2 TL
/-- a packet, of any parts -/
def dPk (a b : D) : D := .ins "Packet" ["tick", "parts"] [a, b]
def nat (n : Nat) : D := .int (n : Nat)
def nats (l : List Nat) : List D := l.map nat
def oPk (t : Nat) (ps : List Nat) : D := dPk (nat t) (.tup (nats ps))
/-- the numbers that the words from k on tell -/
def rest : Nat → List (List Nat) → Except Nat (List Nat)
  | _, [] => .ok []
  | k, w :: r => if isNum w then (rest (k + 1) r).map (NumText.digitsVal w :: ·) else .error k
def readW : List (List Nat) → Except Nat (Nat × List Nat)
  | [] => .error 0
  | w0 :: r => if isNum w0 then (match r with
    | [] => .error 1
    | c :: r => if c = [58] then (match r with
      | [] => .error 2
      | w :: r' => if w = [45] then (if r' = [] then .ok (NumText.digitsVal w0, []) else .error 3) else (rest 2 (w :: r')).map fun ps => (NumText.digitsVal w0, ps))
      else .error 1)
    else .error 0
theorem last_get {ws : List Ce} {c : Ce} {n : Nat} (h : ws.length = n) : (ws ++ [c])[n]? = some c := by subst h; simp
theorem last_set {ws : List Ce} {c d : Ce} {n : Nat} (h : ws.length = n) : (ws ++ [c]).set n d = ws ++ [d] := by subst h; simp
theorem intsD_cons (k n : Nat) : intsD (k : Nat) (n + 1) = .int (k : Nat) :: intsD ((k + 1 : Nat) : Int) n := by
  unfold intsD
  rw [List.range_succ_eq_map, List.map_cons, List.map_map]
  congr 1
  · simp
    intro a _
    omega
section
variable {ws : List Ce}
theorem packet_mk {a b : D} (ha : below ws.length a = true) (hb : below ws.length b = true) : mkR false "Packet" m_Packet___init__ [a, b] ws = .ok (dPk a b) ws := by
  have hc : (ws ++ [Ce.ins "Packet" [] []])[ws.length]? = some (.ins "Packet" [] []) := last_get rfl
  have hw : (ws ++ [Ce.ins "Packet" ["tick"] [a]])[ws.length]? = some (.ins "Packet" ["tick"] [a]) := last_get rfl
  have hm : m_Packet___init__ [.cell ws.length, a, b] (ws ++ [Ce.ins "Packet" [] []]) = .ok .non (ws ++ [.ins "Packet" ["tick", "parts"] [a, b]]) := by
    simp only [m_Packet___init__, g_Packet___init__, N_Packet___init__, bodyM, startD, sSeq, sIfS, sB, sNot, sNotV, sAnd, sAndT, sOrT, sOp, sVar, sC, sRet, sExpr, sSet, sAsg, sPar, sAug, sCons, sNil, sTup, sLst, sCall, sCB, fb1, ↓RL.bind_m, R.ofO_some, R.ofO_none, R.ofO, List.map_cons, List.map_nil, List.length_cons, List.length_nil, List.cons_append, List.nil_append, List.append_nil, List.replicate, List.set_cons_zero, List.set_cons_succ, List.getElem?_cons_zero, List.getElem?_cons_succ, Option.bind_some, Option.map_some, Option.bind_none, Option.map_none, if_true, if_false, Bool.false_eq_true, decide_true, decide_false, Nat.reduceAdd, Nat.reduceSub, Bool.not_true, Bool.not_false, sIf, sYes, sNext, sBad, tgName, tgTup, tgCons, tgNil, tupOf, seqOf, lstOf, ↓reduceIte, Nat.zero_le, Nat.reduceLeDiff, sNewF, hc, last_set rfl, hw, List.not_mem_nil, not_false_eq_true, and_self, Nat.reduceLT, List.mem_singleton, show ¬ ("parts" : Str) = "tick" from by decide]
    rw [fin_nxL (by simp)]
  unfold mkR
  simp only [hm, R.bind_ok, Bool.false_eq_true, if_false]
  refine frz_app ?_ (by simp)
  simp only [frzD, Nat.lt_irrefl, if_false, last_get rfl, belows, ha, hb, Bool.and_self, if_true, dPk]
theorem below_nats (n : Nat) : ∀ l : List Nat, belows n (nats l) = true
  | [] => rfl
  | a :: l => by
    have := below_nats n l
    simp only [nats] at this
    simp [nats, nat, belows, below, this]
theorem loop_rest {l : List (List Nat)} (hl : ∀ w ∈ l, w.length ≤ 100) {c t d : Option D} {all : List D} : ∀ (r : List (List Nat)) (k : Nat) (acc : List Nat) (u : Option D), l.drop k = r → acc.length + r.length < 90000 → (match rest k r with
    | .ok ps => ∃ u', loopFor all none (tgName 5) b_Packet_read_0 (intsD (k : Nat) r.length) [c, t, some (dWs l), d, some (.cell ws.length), u] (ws ++ [.lst (nats acc)]) = .ok ([c, t, some (dWs l), d, some (.cell ws.length), u'], .nx) (ws ++ [.lst (nats (acc ++ ps))])
    | .error j => ∃ acc', loopFor all none (tgName 5) b_Packet_read_0 (intsD (k : Nat) r.length) [c, t, some (dWs l), d, some (.cell ws.length), u] (ws ++ [.lst (nats acc)]) = .ex (bt 0 j) (ws ++ [.lst (nats acc')]))
  | [], k, acc, u, _, _ => ⟨u, by simp [loopFor, SrcOk, intsD]⟩
  | w :: r, k, acc, u, hd, hn => by
    have hk : l[k]? = some w := by
      have := congrArg (fun z => z[0]?) hd
      simpa using this
    have hd2 : l.drop (k + 1) = r := by
      rw [← List.drop_drop, hd]
      rfl
    have hn' : acc.length < 100000 := by omega
    have ct := counted_ok (ws := ws ++ [.lst (nats acc)]) hl (k := k)
    rw [hk] at ct
    rw [List.length_cons, intsD_cons]
    by_cases h : isNum w
    · have ih := loop_rest hl (c := c) (t := t) (d := d) (all := all) r (k + 1) (acc ++ [NumText.digitsVal w]) (some (.int (k : Nat))) hd2 (by simp at hn ⊢; omega)
      have cw : cnt (some w) = some (NumText.digitsVal w) := by simp [cnt, h]
      rw [cw] at ct
      have hb : b_Packet_read_0 [c, t, some (dWs l), d, some (.cell ws.length), some (.int (k : Nat))] (ws ++ [.lst (nats acc)]) = .ok ([c, t, some (dWs l), d, some (.cell ws.length), some (.int (k : Nat))], .nx) (ws ++ [.lst (nats (acc ++ [NumText.digitsVal w]))]) := by
        have e : nats acc ++ [D.int (NumText.digitsVal w : Nat)] = nats (acc ++ [NumText.digitsVal w]) := by simp [nats, nat]
        have hlen : (nats acc).length < 100000 := by simpa [nats] using hn'
        simp only [b_Packet_read_0, bodyM, startD, sSeq, sIfS, sB, sNot, sNotV, sAnd, sAndT, sOrT, sOp, sVar, sC, sRet, sExpr, sSet, sAsg, sPar, sAug, sCons, sNil, sTup, sLst, sCall, sCB, fb1, ↓RL.bind_m, R.ofO_some, R.ofO_none, R.ofO, List.map_cons, List.map_nil, List.length_cons, List.length_nil, List.cons_append, List.nil_append, List.append_nil, List.replicate, List.set_cons_zero, List.set_cons_succ, List.getElem?_cons_zero, List.getElem?_cons_succ, Option.bind_some, Option.map_some, Option.bind_none, Option.map_none, if_true, if_false, Bool.false_eq_true, decide_true, decide_false, Nat.reduceAdd, Nat.reduceSub, Bool.not_true, Bool.not_false, sIf, sYes, sNext, sBad, tgName, tgTup, tgCons, tgNil, tupOf, seqOf, lstOf, ↓reduceIte, Nat.zero_le, Nat.reduceLeDiff, sMB, isTy, last_get rfl, beq_self_eq_true, ct, fmAppend, hlen, last_set rfl, e]
      have st : ∀ R', loopFor all none (tgName 5) b_Packet_read_0 (D.int (k : Nat) :: R') [c, t, some (dWs l), d, some (.cell ws.length), u] (ws ++ [.lst (nats acc)]) = loopFor all none (tgName 5) b_Packet_read_0 R' [c, t, some (dWs l), d, some (.cell ws.length), some (.int (k : Nat))] (ws ++ [.lst (nats (acc ++ [NumText.digitsVal w]))]) := fun R' => by
        simp only [loopFor, SrcOk, if_true, tgName, List.set_cons_zero, List.set_cons_succ, R.bind_ok, hb]
      rw [st]
      simp only [rest, h, if_true]
      cases q : rest (k + 1) r with
      | ok ps =>
        rw [q] at ih
        obtain ⟨u', e⟩ := ih
        refine ⟨u', ?_⟩
        simp only [Except.map]
        rw [e]
        simp
      | error j =>
        rw [q] at ih
        exact ih
    · have cw : cnt (some w) = none := by simp [cnt, h]
      rw [cw] at ct
      have hb : b_Packet_read_0 [c, t, some (dWs l), d, some (.cell ws.length), some (.int (k : Nat))] (ws ++ [.lst (nats acc)]) = .ex (bt 0 k) (ws ++ [.lst (nats acc)]) := by
        simp only [b_Packet_read_0, bodyM, startD, sSeq, sIfS, sB, sNot, sNotV, sAnd, sAndT, sOrT, sOp, sVar, sC, sRet, sExpr, sSet, sAsg, sPar, sAug, sCons, sNil, sTup, sLst, sCall, sCB, fb1, ↓RL.bind_m, R.ofO_some, R.ofO_none, R.ofO, List.map_cons, List.map_nil, List.length_cons, List.length_nil, List.cons_append, List.nil_append, List.append_nil, List.replicate, List.set_cons_zero, List.set_cons_succ, List.getElem?_cons_zero, List.getElem?_cons_succ, Option.bind_some, Option.map_some, Option.bind_none, Option.map_none, if_true, if_false, Bool.false_eq_true, decide_true, decide_false, Nat.reduceAdd, Nat.reduceSub, Bool.not_true, Bool.not_false, sIf, sYes, sNext, sBad, tgName, tgTup, tgCons, tgNil, tupOf, seqOf, lstOf, ↓reduceIte, Nat.zero_le, Nat.reduceLeDiff, sMB, isTy, last_get rfl, beq_self_eq_true, ct]
      simp only [rest, h, if_false]
      refine ⟨acc, ?_⟩
      simp only [loopFor, SrcOk, if_true, tgName, List.set_cons_zero, List.set_cons_succ, R.bind_ok, hb, R.bind_ex]
end
end K87
set_option Elab.async false
set_option linter.all false
set_option maxRecDepth 100000
set_option maxHeartbeats 4000000
namespace K87
open RL PySem L2 TL
/-- what a read tells -/
def rdR (ws : List Ce) : Except Nat (Nat × List Nat) → R D
  | .ok (t, ps) => .ok (oPk t ps) ws
  | .error k => .ex (bt 0 k) ws
def spl32 (x : List Nat) : List (List Nat) := cutC 32 x
theorem sp_str : (" " : Str) = Sx [32] := by decide +kernel
theorem nl_str : ("\n" : Str) = Sx [10] := by decide +kernel
section
variable {ws : List Ce}
theorem split_sp {x : List Nat} (hx : x.length ≤ 90000) : fmSplit (dW x) [.str " "] ws = some (dWs (cutC 32 x), ws) := by
  have h1 : ((" " : Str).length == 0) = false := by decide +kernel
  have h2 : (Sx x).length ≤ 90000 := by rw [Sx_len]; exact hx
  simp only [fmSplit, dW, h1, h2, and_self, if_true]
  rw [sp_str, split_cut (by decide)]
  simp only [dWs, List.map_map]
  rfl
theorem ix_dWs {l : List (List Nat)} {k : Nat} : fIx ws (dWs l) (.int (k : Nat)) = l[k]?.map dW := by
  simp only [fIx, dWs, seqOf, Option.bind_some, atI_n, List.getElem?_map]
theorem ix0 {l : List (List Nat)} : fIx ws (dWs l) (.int 0) = l[0]?.map dW := ix_dWs (k := 0)
theorem ix1 {l : List (List Nat)} : fIx ws (dWs l) (.int 1) = l[1]?.map dW := ix_dWs (k := 1)
theorem ix2 {l : List (List Nat)} : fIx ws (dWs l) (.int 2) = l[2]?.map dW := ix_dWs (k := 2)
theorem packet_read {x : List Nat} (hx : x.length ≤ 80000) (hl : ∀ w ∈ cutC 32 x, w.length ≤ 100) : m_Packet_read [.cls "Packet", dW x] ws = rdR ws (readW (cutC 32 x)) := by
  have hsp := split_sp (ws := ws) (x := x) (by omega)
  have hlen := cut_len 32 x
  obtain ⟨w0, r, e⟩ := List.exists_cons_of_ne_nil (cutC_ne 32 x)
  generalize cutC 32 x = l at hsp hl hlen e
  have ti : tab_str.lookup (.b "str") = some true := rfl
  have hx' : tyD ws (dW x) = some (.b "str") := rfl
  have c0 := counted_ok (ws := ws) hl (k := 0)
  have c2 := counted_ok (ws := ws) hl (k := 2)
  have st : isTy "str" ws (dW x) = true := rfl
  have e0 : l[0]? = some w0 := by rw [e]; rfl
  rw [e0] at c0
  have i0 : ((0 : Nat) : Int) = 0 := rfl
  have i2 : ((2 : Nat) : Int) = 2 := rfl
  rw [i0] at c0
  rw [i2] at c2
  have lt2 : decide ((l.length : Int) < 2) = decide (l.length < 2) := decide_eq_decide.mpr (by omega)
  have gt2 : decide ((2 : Int) < (l.length : Int)) = decide (2 < l.length) := decide_eq_decide.mpr (by omega)
  have gt3 : decide ((3 : Int) < (l.length : Int)) = decide (3 < l.length) := decide_eq_decide.mpr (by omega)
  by_cases h0 : isNum w0
  · have cw : cnt (some w0) = some (NumText.digitsVal w0) := by simp [cnt, h0]
    rw [cw] at c0
    simp only at c0
    cases r with
    | nil =>
      have hlt : l.length < 2 := by rw [e]; simp
      have er : readW l = .error 1 := by simp [e, readW, h0]
      simp only [m_Packet_read, g_Packet_read, N_Packet_read, bodyM, startD, sSeq, sIfS, sB, sNot, sNotV, sAnd, sAndT, sOrT, sOp, sVar, sC, sRet, sExpr, sSet, sAsg, sPar, sAug, sCons, sNil, sTup, sLst, sCall, sCB, fb1, ↓RL.bind_m, R.ofO_some, R.ofO_none, R.ofO, List.map_cons, List.map_nil, List.length_cons, List.length_nil, List.cons_append, List.nil_append, List.append_nil, List.replicate, List.set_cons_zero, List.set_cons_succ, List.getElem?_cons_zero, List.getElem?_cons_succ, Option.bind_some, Option.map_some, Option.bind_none, Option.map_none, if_true, if_false, Bool.false_eq_true, decide_true, decide_false, Nat.reduceAdd, Nat.reduceSub, Bool.not_true, Bool.not_false, sIf, sYes, sNext, sBad, tgName, tgTup, tgCons, tgNil, tupOf, seqOf, lstOf, ↓reduceIte, Nat.zero_le, Nat.reduceLeDiff, sIsi, hx', ti, sMB, st, hsp, c0, len_dWs, fLt, fI, lt2, hlt, sRaise, and_self, R.bind_ex, List.reverse_cons, List.reverse_nil, end_bt, er, rdR]
      rfl
    | cons c r =>
      have e1 : l[1]? = some c := by rw [e]; rfl
      have hlt : ¬ l.length < 2 := by rw [e]; simp
      by_cases h1 : c = [58]
      · cases r with
        | nil =>
          have hgt : ¬ 2 < l.length := by rw [e]; simp
          have e2 : l[2]? = none := by rw [e]; rfl
          have er : readW l = .error 2 := by simp [e, readW, h0, h1]
          rw [e2] at c2
          simp only [cnt] at c2
          simp only [m_Packet_read, g_Packet_read, N_Packet_read, bodyM, startD, sSeq, sIfS, sB, sNot, sNotV, sAnd, sAndT, sOrT, sOp, sVar, sC, sRet, sExpr, sSet, sAsg, sPar, sAug, sCons, sNil, sTup, sLst, sCall, sCB, fb1, ↓RL.bind_m, R.ofO_some, R.ofO_none, R.ofO, List.map_cons, List.map_nil, List.length_cons, List.length_nil, List.cons_append, List.nil_append, List.append_nil, List.replicate, List.set_cons_zero, List.set_cons_succ, List.getElem?_cons_zero, List.getElem?_cons_succ, Option.bind_some, Option.map_some, Option.bind_none, Option.map_none, if_true, if_false, Bool.false_eq_true, decide_true, decide_false, Nat.reduceAdd, Nat.reduceSub, Bool.not_true, Bool.not_false, sIf, sYes, sNext, sBad, tgName, tgTup, tgCons, tgNil, tupOf, seqOf, lstOf, ↓reduceIte, Nat.zero_le, Nat.reduceLeDiff, sIsi, hx', ti, sMB, st, hsp, c0, len_dWs, fLt, fGt, fI, lt2, hlt, ix1, e1, s_colon, ne_str, h1, gt2, hgt, sLstM, c2, R.bind_ex, er, rdR]
          exact fin_exL rfl
        | cons w r =>
          have hgt : 2 < l.length := by rw [e]; simp
          have e2 : l[2]? = some w := by rw [e]; rfl
          by_cases h2 : w = [45]
          · by_cases h3 : r = []
            · have hg3 : ¬ 3 < l.length := by rw [e, h3]; simp
              have er : readW l = .ok (NumText.digitsVal w0, []) := by simp [e, readW, h0, h1, h2, h3]
              have pm := packet_mk (ws := ws) (a := .int (NumText.digitsVal w0 : Nat)) (b := .tup []) rfl rfl
              simp only [m_Packet_read, g_Packet_read, N_Packet_read, bodyM, startD, sSeq, sIfS, sB, sNot, sNotV, sAnd, sAndT, sOrT, sOp, sVar, sC, sRet, sExpr, sSet, sAsg, sPar, sAug, sCons, sNil, sTup, sLst, sCall, sCB, fb1, ↓RL.bind_m, R.ofO_some, R.ofO_none, R.ofO, List.map_cons, List.map_nil, List.length_cons, List.length_nil, List.cons_append, List.nil_append, List.append_nil, List.replicate, List.set_cons_zero, List.set_cons_succ, List.getElem?_cons_zero, List.getElem?_cons_succ, Option.bind_some, Option.map_some, Option.bind_none, Option.map_none, if_true, if_false, Bool.false_eq_true, decide_true, decide_false, Nat.reduceAdd, Nat.reduceSub, Bool.not_true, Bool.not_false, sIf, sYes, sNext, sBad, tgName, tgTup, tgCons, tgNil, tupOf, seqOf, lstOf, ↓reduceIte, Nat.zero_le, Nat.reduceLeDiff, sIsi, hx', ti, sMB, st, hsp, c0, len_dWs, fLt, fGt, fI, lt2, hlt, ix1, ix2, e1, e2, s_colon, s_minus, ne_str, eq_str, h1, h2, gt2, hgt, gt3, hg3, sMk, pm, er, rdR, fin_rt]
              rfl
            · have hg3 : 3 < l.length := by
                rw [e]
                have := List.length_pos_iff.mpr h3
                simp
                omega
              have er : readW l = .error 3 := by simp [e, readW, h0, h1, h2, h3]
              simp only [m_Packet_read, g_Packet_read, N_Packet_read, bodyM, startD, sSeq, sIfS, sB, sNot, sNotV, sAnd, sAndT, sOrT, sOp, sVar, sC, sRet, sExpr, sSet, sAsg, sPar, sAug, sCons, sNil, sTup, sLst, sCall, sCB, fb1, ↓RL.bind_m, R.ofO_some, R.ofO_none, R.ofO, List.map_cons, List.map_nil, List.length_cons, List.length_nil, List.cons_append, List.nil_append, List.append_nil, List.replicate, List.set_cons_zero, List.set_cons_succ, List.getElem?_cons_zero, List.getElem?_cons_succ, Option.bind_some, Option.map_some, Option.bind_none, Option.map_none, if_true, if_false, Bool.false_eq_true, decide_true, decide_false, Nat.reduceAdd, Nat.reduceSub, Bool.not_true, Bool.not_false, sIf, sYes, sNext, sBad, tgName, tgTup, tgCons, tgNil, tupOf, seqOf, lstOf, ↓reduceIte, Nat.zero_le, Nat.reduceLeDiff, sIsi, hx', ti, sMB, st, hsp, c0, len_dWs, fLt, fGt, fI, lt2, hlt, ix1, ix2, e1, e2, s_colon, s_minus, ne_str, eq_str, h1, h2, gt2, hgt, gt3, hg3, sRaise, and_self, R.bind_ex, List.reverse_cons, List.reverse_nil, end_bt, er, rdR]
              rfl
          · rw [e2] at c2
            by_cases h4 : isNum w
            · have cw2 : cnt (some w) = some (NumText.digitsVal w) := by simp [cnt, h4]
              rw [cw2] at c2
              simp only at c2
              have hd : l.drop 3 = r := by rw [e]; rfl
              have hr : r.length + 3 = l.length := by rw [e]; rfl
              have lp := loop_rest (ws := ws) hl (c := some (.cls "Packet")) (t := some (dW x)) (d := some (.int (NumText.digitsVal w0 : Nat))) (all := intsD 3 r.length) r 3 [NumText.digitsVal w] none hd (by simp; omega)
              have hit : sItR2 (sCons (sC (.int 3)) (sCons (sCB (fb1 gLen) (sCons (sVar 2) sNil)) sNil)) [some (.cls "Packet"), some (dW x), some (dWs l), some (.int (NumText.digitsVal w0 : Nat)), some (.cell ws.length), none] (ws ++ [.lst [.int (NumText.digitsVal w : Nat)]]) = .ok (intsD 3 r.length, none) (ws ++ [.lst [.int (NumText.digitsVal w : Nat)]]) := by
                have q1 : (-1000000 : Int) ≤ 3 ∧ (3 : Int) ≤ 1000000 ∧ (-1000000 : Int) ≤ (l.length : Int) ∧ (l.length : Int) ≤ 1000000 := by omega
                have q2 : ((l.length : Int) - 3).toNat = r.length := by omega
                simp only [bodyM, startD, sSeq, sIfS, sB, sNot, sNotV, sAnd, sAndT, sOrT, sOp, sVar, sC, sRet, sExpr, sSet, sAsg, sPar, sAug, sCons, sNil, sTup, sLst, sCall, sCB, fb1, ↓RL.bind_m, R.ofO_some, R.ofO_none, R.ofO, List.map_cons, List.map_nil, List.length_cons, List.length_nil, List.cons_append, List.nil_append, List.append_nil, List.replicate, List.set_cons_zero, List.set_cons_succ, List.getElem?_cons_zero, List.getElem?_cons_succ, Option.bind_some, Option.map_some, Option.bind_none, Option.map_none, if_true, if_false, Bool.false_eq_true, decide_true, decide_false, Nat.reduceAdd, Nat.reduceSub, Bool.not_true, Bool.not_false, sIf, sYes, sNext, sBad, tgName, tgTup, tgCons, tgNil, tupOf, seqOf, lstOf, ↓reduceIte, Nat.zero_le, Nat.reduceLeDiff, sItR2, len_dWs, q1, and_self, q2]
              have ha : nats [NumText.digitsVal w] = [.int (NumText.digitsVal w : Nat)] := rfl
              have hn : (([some (D.cls "Packet"), some (dW x), some (dWs l), some (D.int (NumText.digitsVal w0 : Nat)), none, none] : List (Option D)).set 4 (some (.cell ws.length))) = [some (.cls "Packet"), some (dW x), some (dWs l), some (.int (NumText.digitsVal w0 : Nat)), some (.cell ws.length), none] := rfl
              cases q : rest 3 r with
              | ok ps =>
                rw [q] at lp
                obtain ⟨u', lp⟩ := lp
                have er : readW l = .ok (NumText.digitsVal w0, NumText.digitsVal w :: ps) := by simp [e, readW, h0, h1, h2, rest, h4, q, Except.map]
                have sq : (ws ++ [Ce.lst (nats (NumText.digitsVal w :: ps))])[ws.length]? = some (.lst (nats (NumText.digitsVal w :: ps))) := last_get rfl
                have bl : belows (ws ++ [Ce.lst (nats (NumText.digitsVal w :: ps))]).length (nats (NumText.digitsVal w :: ps)) = true := below_nats _ _
                have pm := packet_mk (ws := ws ++ [Ce.lst (nats (NumText.digitsVal w :: ps))]) (a := .int (NumText.digitsVal w0 : Nat)) (b := .tup (nats (NumText.digitsVal w :: ps))) rfl bl
                rw [ha, show ((3 : Nat) : Int) = 3 from rfl] at lp
                simp only [m_Packet_read, g_Packet_read, N_Packet_read, bodyM, startD, sSeq, sIfS, sB, sNot, sNotV, sAnd, sAndT, sOrT, sOp, sVar, sC, sRet, sExpr, sSet, sAsg, sPar, sAug, sCons, sNil, sTup, sLst, sCall, sCB, fb1, ↓RL.bind_m, R.ofO_some, R.ofO_none, R.ofO, List.map_cons, List.map_nil, List.length_cons, List.length_nil, List.cons_append, List.nil_append, List.append_nil, List.replicate, List.set_cons_zero, List.set_cons_succ, List.getElem?_cons_zero, List.getElem?_cons_succ, Option.bind_some, Option.map_some, Option.bind_none, Option.map_none, if_true, if_false, Bool.false_eq_true, decide_true, decide_false, Nat.reduceAdd, Nat.reduceSub, Bool.not_true, Bool.not_false, sIf, sYes, sNext, sBad, tgName, tgTup, tgCons, tgNil, tupOf, seqOf, lstOf, ↓reduceIte, Nat.zero_le, Nat.reduceLeDiff, sIsi, hx', ti, sMB, st, hsp, c0, len_dWs, fLt, fGt, fI, lt2, hlt, ix1, ix2, e1, e2, s_colon, s_minus, ne_str, eq_str, h1, h2, gt2, hgt, sLstM, c2, sFor, hit, lp, sMk, gTuple, sq, pm, er, rdR]
                refine fin_rtA (xs := [Ce.lst (nats (NumText.digitsVal w :: ps))]) ?_ (fun z => by cases z)
                have fr : ∀ l : List Nat, frzDs ws.length (ws ++ [Ce.lst (nats (NumText.digitsVal w :: ps))]) (nats l) = some (nats l) := by
                  intro l
                  induction l with
                  | nil => rfl
                  | cons a l ih =>
                    show frzDs _ _ (nat a :: nats l) = some (nat a :: nats l)
                    simp only [frzDs, nat, frzD, Option.bind_some, ih, Option.map_some]
                simp only [dPk, frzD, frzDs, fr, Option.map_some, Option.bind_some, oPk, nat]
              | error j =>
                rw [q] at lp
                obtain ⟨acc', lp⟩ := lp
                have er : readW l = .error j := by simp [e, readW, h0, h1, h2, rest, h4, q, Except.map]
                rw [ha, show ((3 : Nat) : Int) = 3 from rfl] at lp
                simp only [m_Packet_read, g_Packet_read, N_Packet_read, bodyM, startD, sSeq, sIfS, sB, sNot, sNotV, sAnd, sAndT, sOrT, sOp, sVar, sC, sRet, sExpr, sSet, sAsg, sPar, sAug, sCons, sNil, sTup, sLst, sCall, sCB, fb1, ↓RL.bind_m, R.ofO_some, R.ofO_none, R.ofO, List.map_cons, List.map_nil, List.length_cons, List.length_nil, List.cons_append, List.nil_append, List.append_nil, List.replicate, List.set_cons_zero, List.set_cons_succ, List.getElem?_cons_zero, List.getElem?_cons_succ, Option.bind_some, Option.map_some, Option.bind_none, Option.map_none, if_true, if_false, Bool.false_eq_true, decide_true, decide_false, Nat.reduceAdd, Nat.reduceSub, Bool.not_true, Bool.not_false, sIf, sYes, sNext, sBad, tgName, tgTup, tgCons, tgNil, tupOf, seqOf, lstOf, ↓reduceIte, Nat.zero_le, Nat.reduceLeDiff, sIsi, hx', ti, sMB, st, hsp, c0, len_dWs, fLt, fGt, fI, lt2, hlt, ix1, ix2, e1, e2, s_colon, s_minus, ne_str, eq_str, h1, h2, gt2, hgt, sLstM, c2, sFor, hit, lp, R.bind_ex, er, rdR]
                exact fin_exA rfl
            · have cw2 : cnt (some w) = none := by simp [cnt, h4]
              rw [cw2] at c2
              simp only at c2
              have er : readW l = .error 2 := by simp [e, readW, h0, h1, h2, rest, h4, Except.map]
              simp only [m_Packet_read, g_Packet_read, N_Packet_read, bodyM, startD, sSeq, sIfS, sB, sNot, sNotV, sAnd, sAndT, sOrT, sOp, sVar, sC, sRet, sExpr, sSet, sAsg, sPar, sAug, sCons, sNil, sTup, sLst, sCall, sCB, fb1, ↓RL.bind_m, R.ofO_some, R.ofO_none, R.ofO, List.map_cons, List.map_nil, List.length_cons, List.length_nil, List.cons_append, List.nil_append, List.append_nil, List.replicate, List.set_cons_zero, List.set_cons_succ, List.getElem?_cons_zero, List.getElem?_cons_succ, Option.bind_some, Option.map_some, Option.bind_none, Option.map_none, if_true, if_false, Bool.false_eq_true, decide_true, decide_false, Nat.reduceAdd, Nat.reduceSub, Bool.not_true, Bool.not_false, sIf, sYes, sNext, sBad, tgName, tgTup, tgCons, tgNil, tupOf, seqOf, lstOf, ↓reduceIte, Nat.zero_le, Nat.reduceLeDiff, sIsi, hx', ti, sMB, st, hsp, c0, len_dWs, fLt, fGt, fI, lt2, hlt, ix1, ix2, e1, e2, s_colon, s_minus, ne_str, eq_str, h1, h2, gt2, hgt, sLstM, c2, R.bind_ex, er, rdR]
              exact fin_exL rfl
      · have er : readW l = .error 1 := by simp [e, readW, h0, h1]
        simp only [m_Packet_read, g_Packet_read, N_Packet_read, bodyM, startD, sSeq, sIfS, sB, sNot, sNotV, sAnd, sAndT, sOrT, sOp, sVar, sC, sRet, sExpr, sSet, sAsg, sPar, sAug, sCons, sNil, sTup, sLst, sCall, sCB, fb1, ↓RL.bind_m, R.ofO_some, R.ofO_none, R.ofO, List.map_cons, List.map_nil, List.length_cons, List.length_nil, List.cons_append, List.nil_append, List.append_nil, List.replicate, List.set_cons_zero, List.set_cons_succ, List.getElem?_cons_zero, List.getElem?_cons_succ, Option.bind_some, Option.map_some, Option.bind_none, Option.map_none, if_true, if_false, Bool.false_eq_true, decide_true, decide_false, Nat.reduceAdd, Nat.reduceSub, Bool.not_true, Bool.not_false, sIf, sYes, sNext, sBad, tgName, tgTup, tgCons, tgNil, tupOf, seqOf, lstOf, ↓reduceIte, Nat.zero_le, Nat.reduceLeDiff, sIsi, hx', ti, sMB, st, hsp, c0, len_dWs, fLt, fI, lt2, hlt, ix1, e1, s_colon, ne_str, h1, sRaise, and_self, R.bind_ex, List.reverse_cons, List.reverse_nil, end_bt, er, rdR]
        rfl
  · have cw : cnt (some w0) = none := by simp [cnt, h0]
    rw [cw] at c0
    simp only at c0
    have er : readW l = .error 0 := by simp [e, readW, h0]
    simp only [m_Packet_read, g_Packet_read, N_Packet_read, bodyM, startD, sSeq, sIfS, sB, sNot, sNotV, sAnd, sAndT, sOrT, sOp, sVar, sC, sRet, sExpr, sSet, sAsg, sPar, sAug, sCons, sNil, sTup, sLst, sCall, sCB, fb1, ↓RL.bind_m, R.ofO_some, R.ofO_none, R.ofO, List.map_cons, List.map_nil, List.length_cons, List.length_nil, List.cons_append, List.nil_append, List.append_nil, List.replicate, List.set_cons_zero, List.set_cons_succ, List.getElem?_cons_zero, List.getElem?_cons_succ, Option.bind_some, Option.map_some, Option.bind_none, Option.map_none, if_true, if_false, Bool.false_eq_true, decide_true, decide_false, Nat.reduceAdd, Nat.reduceSub, Bool.not_true, Bool.not_false, sIf, sYes, sNext, sBad, tgName, tgTup, tgCons, tgNil, tupOf, seqOf, lstOf, ↓reduceIte, Nat.zero_le, Nat.reduceLeDiff, sIsi, hx', ti, sMB, st, hsp, c0, R.bind_ex, er, rdR]
    exact fin_exL rfl
end
end K87
set_option Elab.async false
set_option linter.all false
set_option maxRecDepth 100000
set_option maxHeartbeats 4000000
namespace K87
open RL PySem L2 TL
/-- the lines from k on -/
def allR : Nat → List (List Nat) → Except (Nat × Nat) (List (Nat × List Nat))
  | _, [] => .ok []
  | k, y :: r => match readW (cutC 32 y) with
    | .ok p => (allR (k + 1) r).map (p :: ·)
    | .error w => .error (k, w)
def readL (ls : List (List Nat)) : Except (Nat × Nat) (List (Nat × List Nat)) :=
  if (cutC 32 (ls.headD [])).headD [] = [45] then (if 1 < (cutC 32 (ls.headD [])).length then .error (0, 1) else if 1 < ls.length then .error (1, 0) else .ok []) else allR 0 ls
def readP (x : List Nat) : Except (Nat × Nat) (List (Nat × List Nat)) := readL (cutC 10 x)
def dPs (l : List (Nat × List Nat)) : List D := l.map fun p => oPk p.1 p.2
def rpR (ws : List Ce) : Except (Nat × Nat) (List (Nat × List Nat)) → R D
  | .ok l => .ok (.tup (dPs l)) ws
  | .error (a, b) => .ex (bt a b) ws
/-- a text whose words and lines are short -/
def Gx (x : List Nat) : Prop := x.length ≤ 40000 ∧ ∀ y ∈ cutC 10 x, ∀ w ∈ cutC 32 y, w.length ≤ 100
def dLs (x : List Nat) : List D := (cutC 10 x).map fun y => dWs (cutC 32 y)
section
variable {ws : List Ce}
theorem strs_dW (l : List (List Nat)) : strsOf (l.map dW) = some (l.map Sx) := by
  induction l with
  | nil => rfl
  | cons a l ih => simp only [List.map_cons, dW, strsOf, ih, Option.map_some]
theorem join_sp {x : List Nat} (hx : x.length ≤ 80000) : fmJoin (.str " ") [dWs (cutC 32 x)] ws = some (dW x, ws) := by
  have z := cut_sum 32 x
  have q := cut_len 32 x
  have hs : ((cutC 32 x).map Sx).map (·.length) = (cutC 32 x).map List.length := by
    rw [List.map_map]
    apply List.map_congr_left
    intro y _
    exact Sx_len y
  have h1 : (((cutC 32 x).map Sx).map (·.length)).sum + ((cutC 32 x).map Sx).length * (" " : Str).length ≤ 100000 := by
    have e : (" " : Str).length = 1 := by decide +kernel
    rw [hs, e, List.length_map]
    omega
  simp only [fmJoin, dWs, seqOf, Option.bind_some, strs_dW, joinD, h1, if_true]
  rw [sp_str, joinC, join_cut]
  rfl
theorem split_nl {x : List Nat} (hx : x.length ≤ 90000) : fmSplit (dW x) [.str "\n"] ws = some (dWs (cutC 10 x), ws) := by
  have h1 : (("\n" : Str).length == 0) = false := by decide +kernel
  have h2 : (Sx x).length ≤ 90000 := by rw [Sx_len]; exact hx
  simp only [fmSplit, dW, h1, h2, and_self, if_true]
  rw [nl_str, split_cut (by decide)]
  simp only [dWs, List.map_map]
  rfl
theorem packet_in {y : List Nat} {k : Nat} (hy : y.length ≤ 80000) (hl : ∀ w ∈ cutC 32 y, w.length ≤ 100) : m_packet_in [dWs (cutC 32 y), .int (k : Nat)] ws = match readW (cutC 32 y) with
    | .ok p => .ok (oPk p.1 p.2) ws
    | .error w => .ex (bt k w) ws := by
  have pr := packet_read (ws := ws) hy hl
  have js := join_sp (ws := ws) hy
  have st : isTy "str" ws (D.str " ") = true := rfl
  cases q : readW (cutC 32 y) with
  | ok p =>
    obtain ⟨t, ps⟩ := p
    rw [q] at pr
    simp only [rdR] at pr
    simp only [m_packet_in, g_packet_in, N_packet_in, bodyM, startD, sSeq, sIfS, sB, sNot, sNotV, sAnd, sAndT, sOrT, sOp, sVar, sC, sRet, sExpr, sSet, sAsg, sPar, sAug, sCons, sNil, sTup, sLst, sCall, sCB, fb1, ↓RL.bind_m, R.ofO_some, R.ofO_none, R.ofO, List.map_cons, List.map_nil, List.length_cons, List.length_nil, List.cons_append, List.nil_append, List.append_nil, List.replicate, List.set_cons_zero, List.set_cons_succ, List.getElem?_cons_zero, List.getElem?_cons_succ, Option.bind_some, Option.map_some, Option.bind_none, Option.map_none, if_true, if_false, Bool.false_eq_true, decide_true, decide_false, Nat.reduceAdd, Nat.reduceSub, Bool.not_true, Bool.not_false, sIf, sYes, sNext, sBad, tgName, tgTup, tgCons, tgNil, tupOf, seqOf, lstOf, ↓reduceIte, Nat.zero_le, Nat.reduceLeDiff, sTryN, sCmX, sMB, st, js, pr, nox, fin_rt]
  | error w =>
    rw [q] at pr
    simp only [rdR] at pr
    have lk : catT_BadText.lookup (bt 0 w).c = some true := rfl
    have hc : (bt 0 w).c ∈ xcs_word := by simp [xcs_word, bt]
    have hw : ((bt 0 w).ks.zip (bt 0 w).l).lookup ("word" : Str) = some (.int (w : Nat)) := rfl
    simp only [m_packet_in, g_packet_in, N_packet_in, bodyM, startD, sSeq, sIfS, sB, sNot, sNotV, sAnd, sAndT, sOrT, sOp, sVar, sC, sRet, sExpr, sSet, sAsg, sPar, sAug, sCons, sNil, sTup, sLst, sCall, sCB, fb1, ↓RL.bind_m, R.ofO_some, R.ofO_none, R.ofO, List.map_cons, List.map_nil, List.length_cons, List.length_nil, List.cons_append, List.nil_append, List.append_nil, List.replicate, List.set_cons_zero, List.set_cons_succ, List.getElem?_cons_zero, List.getElem?_cons_succ, Option.bind_some, Option.map_some, Option.bind_none, Option.map_none, if_true, if_false, Bool.false_eq_true, decide_true, decide_false, Nat.reduceAdd, Nat.reduceSub, Bool.not_true, Bool.not_false, sIf, sYes, sNext, sBad, tgName, tgTup, tgCons, tgNil, tupOf, seqOf, lstOf, ↓reduceIte, Nat.zero_le, Nat.reduceLeDiff, sTryN, sCmX, sMB, st, js, pr, nox, R.bind_ex, lk, List.length_cons, List.length_nil, Nat.reduceLT, Nat.zero_add, sRaiseN, sXp, hc, hw, and_self, List.reverse_cons, List.reverse_nil, Nat.reduceLeDiff, end_bt]
theorem lines_of {x : List Nat} (hx : x.length ≤ 80000) : m_lines_of [dW x] ws = .ok (.lst (dLs x)) ws := by
  have ti : tab_str.lookup (.b "str") = some true := rfl
  have hx' : tyD ws (dW x) = some (.b "str") := rfl
  have st : isTy "str" ws (dW x) = true := rfl
  have sn := split_nl (ws := ws) (x := x) (by omega)
  have hl := cut_len 10 x
  have z := lc_map (src := none) (t := tgName 1) (el := sMB "str" fmSplit (sVar 1) (sCons (sC (.str " ")) sNil)) (ρ := wipeD [some (dW x), none] [1]) (ws := ws) (all := (cutC 10 x).map dW) (f := fun d => match d with
    | .str s => dWs (cutC 32 (tl s))
    | d => d) trivial ((cutC 10 x).map dW) [] (by simp; omega) (by
      intro d hd
      obtain ⟨y, hy, rfl⟩ := List.mem_map.mp hd
      have hp := cut_piece hy
      have s2 := split_sp (ws := ws) (x := y) (by omega)
      have st2 : isTy "str" ws (dW y) = true := rfl
      refine ⟨[some (dW x), some (dW y)], rfl, ?_⟩
      simp only [bodyM, startD, sSeq, sIfS, sB, sNot, sNotV, sAnd, sAndT, sOrT, sOp, sVar, sC, sRet, sExpr, sSet, sAsg, sPar, sAug, sCons, sNil, sTup, sLst, sCall, sCB, fb1, ↓RL.bind_m, R.ofO_some, R.ofO_none, R.ofO, List.map_cons, List.map_nil, List.length_cons, List.length_nil, List.cons_append, List.nil_append, List.append_nil, List.replicate, List.set_cons_zero, List.set_cons_succ, List.getElem?_cons_zero, List.getElem?_cons_succ, Option.bind_some, Option.map_some, Option.bind_none, Option.map_none, if_true, if_false, Bool.false_eq_true, decide_true, decide_false, Nat.reduceAdd, Nat.reduceSub, Bool.not_true, Bool.not_false, sIf, sYes, sNext, sBad, tgName, tgTup, tgCons, tgNil, tupOf, seqOf, lstOf, ↓reduceIte, Nat.zero_le, Nat.reduceLeDiff, sMB, st2, s2]
      rfl)
  have e : ((cutC 10 x).map dW).map (fun d => match d with
    | .str s => dWs (cutC 32 (tl s))
    | d => d) = dLs x := by
    rw [List.map_map]
    rfl
  rw [e, List.nil_append] at z
  simp only [m_lines_of, g_lines_of, N_lines_of, bodyM, startD, sSeq, sIfS, sB, sNot, sNotV, sAnd, sAndT, sOrT, sOp, sVar, sC, sRet, sExpr, sSet, sAsg, sPar, sAug, sCons, sNil, sTup, sLst, sCall, sCB, fb1, ↓RL.bind_m, R.ofO_some, R.ofO_none, R.ofO, List.map_cons, List.map_nil, List.length_cons, List.length_nil, List.cons_append, List.nil_append, List.append_nil, List.replicate, List.set_cons_zero, List.set_cons_succ, List.getElem?_cons_zero, List.getElem?_cons_succ, Option.bind_some, Option.map_some, Option.bind_none, Option.map_none, if_true, if_false, Bool.false_eq_true, decide_true, decide_false, Nat.reduceAdd, Nat.reduceSub, Bool.not_true, Bool.not_false, sIf, sYes, sNext, sBad, tgName, tgTup, tgCons, tgNil, tupOf, seqOf, lstOf, ↓reduceIte, Nat.zero_le, Nat.reduceLeDiff, sIsi, hx', ti, sLc, sLcG, fzL, sItL, sMB, st, sn, dWs, itOf]
  rw [z]
  exact fin_rt
end
end K87
set_option Elab.async false
set_option linter.all false
set_option maxRecDepth 100000
set_option maxHeartbeats 4000000
namespace K87
open RL PySem L2 TL
def enumF : Nat → List D → List D
  | _, [] => []
  | k, d :: r => .tup [.int (k : Nat), d] :: enumF (k + 1) r
theorem enumF_eq : ∀ (l : List D) (k : Nat), enumF k l = (List.range l.length).map fun i => .tup [.int ((k + i : Nat) : Int), l.getD i .non]
  | [], k => rfl
  | d :: l, k => by
    rw [List.length_cons, List.range_succ_eq_map, List.map_cons, List.map_map, enumF, enumF_eq l (k + 1)]
    congr 1
    apply List.map_congr_left
    intro i _
    simp [Function.comp]
    omega
theorem enumD_eq (l : List D) : enumD l = enumF 0 l := by
  rw [enumF_eq]
  unfold enumD
  apply List.map_congr_left
  intro i _
  simp
def dErr (a b : Nat) : D := .tup [.str "text", .str (numS a), .str (numS b)]
section
variable {ws : List Ce}
theorem loop_lines {src : List D} {ρ : List (Option D)} (hρ : 3 < ρ.length) : ∀ (r : List (List Nat)) (k : Nat) (acc : List D), (∀ y ∈ r, y.length ≤ 80000 ∧ ∀ w ∈ cutC 32 y, w.length ≤ 100) → acc.length + r.length < 90000 →
    loopLcX src none (tgTup 2 (tgCons (tgName 2) (tgCons (tgName 3) tgNil))) sYes (sCall m_packet_in (sCons (sVar 3) (sCons (sVar 2) sNil))) ρ (enumF k (r.map fun y => dWs (cutC 32 y))) acc ws = match allR k r with
      | .ok ps => .ok (acc ++ dPs ps) ws
      | .error (a, b) => .ex (bt a b) ws
  | [], k, acc, _, _ => by simp [enumF, loopLcX, SrcOk, allR, dPs]
  | y :: r, k, acc, hl, hn => by
    obtain ⟨h1, h2⟩ := hl y (by simp)
    have pi := packet_in (ws := ws) (k := k) h1 h2
    have hn' : acc.length < 100000 := by omega
    have e3 : ((ρ.set 2 (some (.int (k : Nat)))).set 3 (some (dWs (cutC 32 y))))[3]? = some (some (dWs (cutC 32 y))) := List.getElem?_set_self (by simpa using hρ)
    have e2 : ((ρ.set 2 (some (.int (k : Nat)))).set 3 (some (dWs (cutC 32 y))))[2]? = some (some (.int (k : Nat))) := by
      rw [List.getElem?_set_ne (by decide), List.getElem?_set_self (by omega)]
    have tg : tgTup 2 (tgCons (tgName 2) (tgCons (tgName 3) tgNil)) (.tup [.int (k : Nat), dWs (cutC 32 y)]) ρ ws = .ok ((ρ.set 2 (some (.int (k : Nat)))).set 3 (some (dWs (cutC 32 y)))) ws := rfl
    simp only [List.map_cons, enumF, loopLcX, SrcOk, if_true, tg, nox, R.bind_ok, sYes, sCall, sCons, sVar, e3, e2, sNil, pi, allR]
    cases q : readW (cutC 32 y) with
    | error w => simp only [R.bind_ex]
    | ok p =>
      have ih := loop_lines (src := src) hρ r (k + 1) (acc ++ [oPk p.1 p.2]) (fun z hz => hl z (List.mem_cons_of_mem _ hz)) (by simp at hn ⊢; omega)
      simp only [R.bind_ok, hn', if_true, ih]
      cases q2 : allR (k + 1) r with
      | ok ps => simp [Except.map, dPs]
      | error ab => rfl
theorem Gx.line {x y : List Nat} (h : Gx x) (hy : y ∈ cutC 10 x) : y.length ≤ 80000 ∧ ∀ w ∈ cutC 32 y, w.length ≤ 100 := ⟨by
  have := cut_piece hy
  have := h.1
  omega, h.2 y hy⟩
theorem need_end {l : List D} : m_need_end [.lst l, .int 1] ws = if 1 < l.length then .ex (bt 1 0) ws else .ok .non ws := by
  have q : decide ((1 : Int) < (l.length : Int)) = decide (1 < l.length) := decide_eq_decide.mpr (by omega)
  by_cases h : 1 < l.length
  · simp only [m_need_end, g_need_end, N_need_end, bodyM, startD, sSeq, sIfS, sB, sNot, sNotV, sAnd, sAndT, sOrT, sOp, sVar, sC, sRet, sExpr, sSet, sAsg, sPar, sAug, sCons, sNil, sTup, sLst, sCall, sCB, fb1, ↓RL.bind_m, R.ofO_some, R.ofO_none, R.ofO, List.map_cons, List.map_nil, List.length_cons, List.length_nil, List.cons_append, List.nil_append, List.append_nil, List.replicate, List.set_cons_zero, List.set_cons_succ, List.getElem?_cons_zero, List.getElem?_cons_succ, Option.bind_some, Option.map_some, Option.bind_none, Option.map_none, if_true, if_false, Bool.false_eq_true, decide_true, decide_false, Nat.reduceAdd, Nat.reduceSub, Bool.not_true, Bool.not_false, sIf, sYes, sNext, sBad, tgName, tgTup, tgCons, tgNil, tupOf, seqOf, lstOf, ↓reduceIte, Nat.zero_le, Nat.reduceLeDiff, gLen, fGt, fI, q, h, sRaise, and_self, R.bind_ex, List.reverse_cons, List.reverse_nil, Nat.reduceLeDiff, end_bt]
  · simp only [m_need_end, g_need_end, N_need_end, bodyM, startD, sSeq, sIfS, sB, sNot, sNotV, sAnd, sAndT, sOrT, sOp, sVar, sC, sRet, sExpr, sSet, sAsg, sPar, sAug, sCons, sNil, sTup, sLst, sCall, sCB, fb1, ↓RL.bind_m, R.ofO_some, R.ofO_none, R.ofO, List.map_cons, List.map_nil, List.length_cons, List.length_nil, List.cons_append, List.nil_append, List.append_nil, List.replicate, List.set_cons_zero, List.set_cons_succ, List.getElem?_cons_zero, List.getElem?_cons_succ, Option.bind_some, Option.map_some, Option.bind_none, Option.map_none, if_true, if_false, Bool.false_eq_true, decide_true, decide_false, Nat.reduceAdd, Nat.reduceSub, Bool.not_true, Bool.not_false, sIf, sYes, sNext, sBad, tgName, tgTup, tgCons, tgNil, tupOf, seqOf, lstOf, ↓reduceIte, Nat.zero_le, Nat.reduceLeDiff, gLen, fGt, fI, q, h, fin_nx]
theorem read_packets {x : List Nat} (h : Gx x) : m_read_packets [dW x] ws = rpR ws (readP x) := by
  have h1 := h.1
  have lo := lines_of (ws := ws) (x := x) (by omega)
  have hl := cut_len 10 x
  have hg : ∀ y ∈ cutC 10 x, y.length ≤ 80000 ∧ ∀ w ∈ cutC 32 y, w.length ≤ 100 := fun y hy => h.line hy
  obtain ⟨y0, r, e⟩ := List.exists_cons_of_ne_nil (cutC_ne 10 x)
  unfold readP
  have hd : dLs x = (cutC 10 x).map fun y => dWs (cutC 32 y) := rfl
  generalize hL : cutC 10 x = L at hl hg e hd
  obtain ⟨w0, s, e2⟩ := List.exists_cons_of_ne_nil (cutC_ne 32 y0)
  have d0 : dLs x = dWs (cutC 32 y0) :: (r.map fun y => dWs (cutC 32 y)) := by rw [hd, e]; rfl
  have i0 : fIx ws (.lst (dLs x)) (.int 0) = some (dWs (cutC 32 y0)) := by
    rw [d0]
    simp only [fIx, seqOf, Option.bind_some, at0]
  have i1 : fIx ws (dWs (cutC 32 y0)) (.int 0) = some (dW w0) := by rw [ix0, e2]; rfl
  have c0 : (cutC 32 y0).headD [] = w0 := by rw [e2]; rfl
  have c1 : cutC 32 (L.headD []) = cutC 32 y0 := by rw [e]; rfl
  have gt1 : decide ((1 : Int) < ((cutC 32 y0).length : Int)) = decide (1 < (cutC 32 y0).length) := decide_eq_decide.mpr (by omega)
  have nl : (dLs x).length = L.length := by rw [hd, List.length_map]
  by_cases hm : w0 = [45]
  · by_cases h2 : 1 < (cutC 32 y0).length
    · have er : readL L = .error (0, 1) := by simp only [readL, c1, c0, hm, if_true, h2]
      simp only [m_read_packets, g_read_packets, N_read_packets, bodyM, startD, sSeq, sIfS, sB, sNot, sNotV, sAnd, sAndT, sOrT, sOp, sVar, sC, sRet, sExpr, sSet, sAsg, sPar, sAug, sCons, sNil, sTup, sLst, sCall, sCB, fb1, ↓RL.bind_m, R.ofO_some, R.ofO_none, R.ofO, List.map_cons, List.map_nil, List.length_cons, List.length_nil, List.cons_append, List.nil_append, List.append_nil, List.replicate, List.set_cons_zero, List.set_cons_succ, List.getElem?_cons_zero, List.getElem?_cons_succ, Option.bind_some, Option.map_some, Option.bind_none, Option.map_none, if_true, if_false, Bool.false_eq_true, decide_true, decide_false, Nat.reduceAdd, Nat.reduceSub, Bool.not_true, Bool.not_false, sIf, sYes, sNext, sBad, tgName, tgTup, tgCons, tgNil, tupOf, seqOf, lstOf, ↓reduceIte, Nat.zero_le, Nat.reduceLeDiff, lo, i0, i1, s_minus, eq_str, hm, len_dWs, fGt, fI, gt1, h2, sRaise, and_self, R.bind_ex, List.reverse_cons, List.reverse_nil, Nat.reduceLeDiff, end_bt, er, rpR]
      rfl
    · have ne := need_end (ws := ws) (l := dLs x)
      rw [nl] at ne
      by_cases h3 : 1 < L.length
      · have er : readL L = .error (1, 0) := by simp only [readL, c1, c0, hm, if_true, h2, if_false, h3]
        rw [if_pos h3] at ne
        simp only [m_read_packets, g_read_packets, N_read_packets, bodyM, startD, sSeq, sIfS, sB, sNot, sNotV, sAnd, sAndT, sOrT, sOp, sVar, sC, sRet, sExpr, sSet, sAsg, sPar, sAug, sCons, sNil, sTup, sLst, sCall, sCB, fb1, ↓RL.bind_m, R.ofO_some, R.ofO_none, R.ofO, List.map_cons, List.map_nil, List.length_cons, List.length_nil, List.cons_append, List.nil_append, List.append_nil, List.replicate, List.set_cons_zero, List.set_cons_succ, List.getElem?_cons_zero, List.getElem?_cons_succ, Option.bind_some, Option.map_some, Option.bind_none, Option.map_none, if_true, if_false, Bool.false_eq_true, decide_true, decide_false, Nat.reduceAdd, Nat.reduceSub, Bool.not_true, Bool.not_false, sIf, sYes, sNext, sBad, tgName, tgTup, tgCons, tgNil, tupOf, seqOf, lstOf, ↓reduceIte, Nat.zero_le, Nat.reduceLeDiff, lo, i0, i1, s_minus, eq_str, hm, len_dWs, fGt, fI, gt1, h2, ne, R.bind_ex, er, rpR]
        exact fin_exL rfl
      · have er : readL L = .ok [] := by simp only [readL, c1, c0, hm, if_true, h2, if_false, h3]
        rw [if_neg h3] at ne
        simp only [m_read_packets, g_read_packets, N_read_packets, bodyM, startD, sSeq, sIfS, sB, sNot, sNotV, sAnd, sAndT, sOrT, sOp, sVar, sC, sRet, sExpr, sSet, sAsg, sPar, sAug, sCons, sNil, sTup, sLst, sCall, sCB, fb1, ↓RL.bind_m, R.ofO_some, R.ofO_none, R.ofO, List.map_cons, List.map_nil, List.length_cons, List.length_nil, List.cons_append, List.nil_append, List.append_nil, List.replicate, List.set_cons_zero, List.set_cons_succ, List.getElem?_cons_zero, List.getElem?_cons_succ, Option.bind_some, Option.map_some, Option.bind_none, Option.map_none, if_true, if_false, Bool.false_eq_true, decide_true, decide_false, Nat.reduceAdd, Nat.reduceSub, Bool.not_true, Bool.not_false, sIf, sYes, sNext, sBad, tgName, tgTup, tgCons, tgNil, tupOf, seqOf, lstOf, ↓reduceIte, Nat.zero_le, Nat.reduceLeDiff, lo, i0, i1, s_minus, eq_str, hm, len_dWs, fGt, fI, gt1, h2, ne, er, rpR, fin_rt]
        rfl
  · have er : readL L = allR 0 L := by simp only [readL, c1, c0, hm, if_false]
    have lp := loop_lines (ws := ws) (src := enumF 0 (dLs x)) (ρ := wipeD [some (dW x), some (.lst (dLs x)), none, none] [2, 3]) (by simp [wipeD]) L 0 [] hg (by simp; omega)
    rw [← hd] at lp
    simp only [m_read_packets, g_read_packets, N_read_packets, bodyM, startD, sSeq, sIfS, sB, sNot, sNotV, sAnd, sAndT, sOrT, sOp, sVar, sC, sRet, sExpr, sSet, sAsg, sPar, sAug, sCons, sNil, sTup, sLst, sCall, sCB, fb1, ↓RL.bind_m, R.ofO_some, R.ofO_none, R.ofO, List.map_cons, List.map_nil, List.length_cons, List.length_nil, List.cons_append, List.nil_append, List.append_nil, List.replicate, List.set_cons_zero, List.set_cons_succ, List.getElem?_cons_zero, List.getElem?_cons_succ, Option.bind_some, Option.map_some, Option.bind_none, Option.map_none, if_true, if_false, Bool.false_eq_true, decide_true, decide_false, Nat.reduceAdd, Nat.reduceSub, Bool.not_true, Bool.not_false, sIf, sYes, sNext, sBad, tgName, tgTup, tgCons, tgNil, tupOf, seqOf, lstOf, ↓reduceIte, Nat.zero_le, Nat.reduceLeDiff, lo, i0, i1, s_minus, eq_str, hm, sLcX, sLcGX, sItE, enumD_eq, lp, er]
    cases q : allR 0 L with
    | ok ps => simp only [R.bind_ok, fzL, gTuple, bodyM, startD, sSeq, sIfS, sB, sNot, sNotV, sAnd, sAndT, sOrT, sOp, sVar, sC, sRet, sExpr, sSet, sAsg, sPar, sAug, sCons, sNil, sTup, sLst, sCall, sCB, fb1, ↓RL.bind_m, R.ofO_some, R.ofO_none, R.ofO, List.map_cons, List.map_nil, List.length_cons, List.length_nil, List.cons_append, List.nil_append, List.append_nil, List.replicate, List.set_cons_zero, List.set_cons_succ, List.getElem?_cons_zero, List.getElem?_cons_succ, Option.bind_some, Option.map_some, Option.bind_none, Option.map_none, if_true, if_false, Bool.false_eq_true, decide_true, decide_false, Nat.reduceAdd, Nat.reduceSub, Bool.not_true, Bool.not_false, sIf, sYes, sNext, sBad, tgName, tgTup, tgCons, tgNil, tupOf, seqOf, lstOf, ↓reduceIte, Nat.zero_le, Nat.reduceLeDiff, rpR, fin_rt]
    | error ab =>
      obtain ⟨a, b⟩ := ab
      simp only [R.bind_ex, rpR]
      exact fin_exL rfl
end
end K87
set_option Elab.async false
set_option linter.all false
set_option maxRecDepth 100000
set_option maxHeartbeats 4000000
namespace K87
open RL PySem L2 TL
abbrev Pk := Nat × List Nat
def partsT (ps : List Nat) : List Nat := if ps = [] then [45] else joinL [32] (ps.map numL)
def lineP (p : Pk) : List Nat := numL p.1 ++ [32, 58, 32] ++ partsT p.2
/-- a packet of short numbers -/
def Gp (p : Pk) : Prop := p.1 < 10 ^ 100 ∧ (∀ n ∈ p.2, n < 10 ^ 100) ∧ (lineP p).length ≤ 80000
theorem joinL_len (c : Nat) : ∀ ps : List (List Nat), ps ≠ [] → (joinL [c] ps).length + 1 = (ps.map List.length).sum + ps.length
  | [], h => absurd rfl h
  | [a], _ => by simp [joinL]
  | a :: b :: r, _ => by
    have z := joinL_len c (b :: r) (by simp)
    rw [joinL_cons]
    simp at z ⊢
    omega
theorem app_S (a b : List Nat) : Sx a ++ Sx b = Sx (a ++ b) := ext_tl (by rw [tl_append])
theorem colon_str : (" : " : Str) = Sx [32, 58, 32] := by decide +kernel
section
variable {ws : List Ce}
theorem join_do {c : Nat} {ps : List (List Nat)} (h : (joinL [c] ps).length ≤ 90000) : joinD (Sx [c]) (ps.map Sx) ws = some (dW (joinL [c] ps), ws) := by
  have hs : ((ps.map Sx).map (·.length)) = ps.map List.length := by
    rw [List.map_map]
    apply List.map_congr_left
    intro y _
    exact Sx_len y
  have e : (Sx [c]).length = 1 := by rw [Sx_len]; rfl
  have h1 : ((ps.map Sx).map (·.length)).sum + (ps.map Sx).length * (Sx [c]).length ≤ 100000 := by
    rw [hs, e, List.length_map]
    by_cases h0 : ps = []
    · subst h0
      simp
    · have := joinL_len c ps h0
      omega
  simp only [joinD, h1, if_true]
  rw [joinC]
  rfl
theorem gstr_nat {n : Nat} (h : n < 10 ^ 100) : gStr ws (nat n) = some (dW (numL n)) := str_of h
theorem lc_parts {c : Option D} {all : List D} : ∀ (ps : List Nat) (acc : List D), (∀ n ∈ ps, n < 10 ^ 100) → acc.length + ps.length ≤ 100000 →
    loopLc all none (tgName 1) sYes (sCB (fb1 gStr) (sCons (sVar 1) sNil)) [c, none] (nats ps) acc ws = .ok (acc ++ (ps.map numL).map dW) ws
  | [], acc, _, _ => by simp [loopLc, SrcOk, nats]
  | n :: ps, acc, h, hn => by
    have g := gstr_nat (ws := ws) (h n (by simp))
    have hn' : acc.length < 100000 := by
      simp at hn
      omega
    have ih := lc_parts (c := c) (all := all) ps (acc ++ [dW (numL n)]) (fun m hm => h m (List.mem_cons_of_mem _ hm)) (by simp at hn ⊢; omega)
    show loopLc all none (tgName 1) sYes _ _ (nat n :: nats ps) acc ws = _
    simp only [loopLc, SrcOk, if_true, tgName, List.set_cons_zero, List.set_cons_succ, nox, R.bind_ok, sYes, sCB, sCons, sVar, List.getElem?_cons_zero, List.getElem?_cons_succ, sNil, fb1, g, Option.map_some, hn', ih]
    simp
theorem packet_str {p : Pk} (h : Gp p) : m_Packet___str__ [oPk p.1 p.2] ws = .ok (dW (lineP p)) ws := by
  obtain ⟨t, ps⟩ := p
  obtain ⟨h1, h2, h3⟩ := h
  simp only at h1 h2
  have hl : (lineP (t, ps)).length = (numL t).length + 3 + (partsT ps).length := by
    simp [lineP]
    omega
  have i0 : insOf ws "Packet" (oPk t ps) = some (((["tick", "parts"] : List Str)), [nat t, .tup (nats ps)]) := rfl
  have k0 : okI ["tick", "parts"] "tick" 0 = true := by decide
  have k1 : okI ["tick", "parts"] "parts" 1 = true := by decide
  have lg : ((t : Nat) : Int).natAbs.log2 < 1920 := log_small h1
  have st : isTy "str" ws (D.str (Sx [32])) = true := rfl
  have ft : sFmt (sAttr "Packet" "tick" 0 (sVar 0)) [some (oPk t ps), none] ws = .ok (dW (numL t)) ws := by
    simp only [sFmt, sAttr, bodyM, startD, sSeq, sIfS, sB, sNot, sNotV, sAnd, sAndT, sOrT, sOp, sVar, sC, sRet, sExpr, sSet, sAsg, sPar, sAug, sCons, sNil, sTup, sLst, sCall, sCB, fb1, ↓RL.bind_m, R.ofO_some, R.ofO_none, R.ofO, List.map_cons, List.map_nil, List.length_cons, List.length_nil, List.cons_append, List.nil_append, List.append_nil, List.replicate, List.set_cons_zero, List.set_cons_succ, List.getElem?_cons_zero, List.getElem?_cons_succ, Option.bind_some, Option.map_some, Option.bind_none, Option.map_none, if_true, if_false, Bool.false_eq_true, decide_true, decide_false, Nat.reduceAdd, Nat.reduceSub, Bool.not_true, Bool.not_false, sIf, sYes, sNext, sBad, tgName, tgTup, tgCons, tgNil, tupOf, seqOf, lstOf, ↓reduceIte, Nat.zero_le, Nat.reduceLeDiff, i0, k0, nat, lg, str_numS]
    rfl
  have hj : (joinL [32] (ps.map numL)).length ≤ 80000 := by
    by_cases h0 : ps = []
    · subst h0
      simp [joinL]
    · have : partsT ps = joinL [32] (ps.map numL) := by simp [partsT, h0]
      rw [this] at hl
      omega
  have hp : ps.length ≤ 80001 := by
    by_cases h0 : ps = []
    · subst h0
      simp
    · have := joinL_len 32 (ps.map numL) (by simpa using h0)
      rw [List.length_map] at this
      omega
  have jd := join_do (ws := ws) (c := 32) (ps := ps.map numL) (by omega)
  have sj : sMB "str" fmJoin (sC (.str " ")) (sCons (sLc [1] (sItT (sAttr "Packet" "parts" 1 (sVar 0))) (tgName 1) sYes (sCB (fb1 gStr) (sCons (sVar 1) sNil))) sNil) [some (oPk t ps), none] ws = .ok (dW (joinL [32] (ps.map numL))) ws := by
    have lp := lc_parts (ws := ws) (c := some (oPk t ps)) (all := nats ps) ps [] h2 (by simp; omega)
    rw [List.nil_append] at lp
    simp only [sp_str, sMB, sC, R.bind_ok, st, if_true, sCons, sLc, sLcG, sItT, sAttr, sVar, List.getElem?_cons_zero, i0, k1, List.getElem?_cons_succ, R.ofO_some, tupOf, Option.map_some, wipeD, List.set_cons_zero, List.set_cons_succ, lp, fzL, sNil, fmJoin, seqOf, Option.bind_some, strs_dW, jd]
  have ft2 : sFmt (sOrV (sMB "str" fmJoin (sC (.str " ")) (sCons (sLc [1] (sItT (sAttr "Packet" "parts" 1 (sVar 0))) (tgName 1) sYes (sCB (fb1 gStr) (sCons (sVar 1) sNil))) sNil)) (sC (.str "-"))) [some (oPk t ps), none] ws = .ok (dW (partsT ps)) ws := by
    have hs : (Sx (joinL [32] (ps.map numL))).length ≤ 100000 := by rw [Sx_len]; omega
    by_cases h0 : ps = []
    · subst h0
      have tr : truD ws (dW (joinL [32] (([] : List Nat).map numL))) = some false := rfl
      simp only [sFmt, sOrV, sj, R.bind_ok, tr, sC]
      rfl
    · have tr : truD ws (dW (joinL [32] (ps.map numL))) = some true := by
        have hne : (joinL [32] (ps.map numL)).length ≠ 0 := by
          obtain ⟨a, r, rfl⟩ := List.exists_cons_of_ne_nil h0
          have := List.length_pos_iff.mpr (numL_ne a)
          cases r with
          | nil => simp [joinL, numL_ne]
          | cons b r =>
            rw [List.map_cons, List.map_cons, joinL_cons]
            simp [numL_ne]
        simp only [truD, dW, hs, if_true]
        rw [Sx_len]
        simpa using hne
      have e : partsT ps = joinL [32] (ps.map numL) := by simp [partsT, h0]
      simp only [sFmt, sOrV, sj, R.bind_ok, tr, e]
      simp only [dW, hs, if_true]
  have a1 : (Str.empty ++ Sx (numL t)) = Sx (numL t) := ext_tl (by rw [tl_append]; rfl)
  have l1 : (Sx (numL t)).length ≤ 100000 := by rw [Sx_len]; omega
  have l2 : (Sx (numL t ++ [32, 58, 32])).length ≤ 100000 := by rw [Sx_len]; simp; omega
  have l3 : (Sx (numL t ++ [32, 58, 32] ++ partsT ps)).length ≤ 100000 := by
    rw [Sx_len]
    simp
    omega
  simp only [m_Packet___str__, g_Packet___str__, N_Packet___str__, bodyM, startD, sSeq, sIfS, sB, sNot, sNotV, sAnd, sAndT, sOrT, sOp, sVar, sC, sRet, sExpr, sSet, sAsg, sPar, sAug, sCons, sNil, sTup, sLst, sCall, sCB, fb1, ↓RL.bind_m, R.ofO_some, R.ofO_none, R.ofO, List.map_cons, List.map_nil, List.length_cons, List.length_nil, List.cons_append, List.nil_append, List.append_nil, List.replicate, List.set_cons_zero, List.set_cons_succ, List.getElem?_cons_zero, List.getElem?_cons_succ, Option.bind_some, Option.map_some, Option.bind_none, Option.map_none, if_true, if_false, Bool.false_eq_true, decide_true, decide_false, Nat.reduceAdd, Nat.reduceSub, Bool.not_true, Bool.not_false, sIf, sYes, sNext, sBad, tgName, tgTup, tgCons, tgNil, tupOf, seqOf, lstOf, ↓reduceIte, Nat.zero_le, Nat.reduceLeDiff, sJoined, sJs, ft, ft2]
  simp only [dW, a1, l1, if_true, colon_str, app_S, l2, l3, fin_rt]
  rfl
end
end K87
set_option Elab.async false
set_option linter.all false
set_option maxRecDepth 100000
set_option maxHeartbeats 4000000
namespace K87
open RL PySem L2 TL
theorem rest_ok : ∀ {r : List (List Nat)} {k : Nat} {ps : List Nat}, rest k r = .ok ps → ps = r.map NumText.digitsVal ∧ ∀ w ∈ r, isNum w
  | [], k, ps, h => by
    simp [rest] at h
    simp [← h]
  | w :: r, k, ps, h => by
    by_cases hw : isNum w
    · simp only [rest, hw, if_true] at h
      cases q : rest (k + 1) r with
      | error j => rw [q] at h; cases h
      | ok qs =>
        rw [q] at h
        obtain ⟨h1, h2⟩ := rest_ok q
        simp only [Except.map, Except.ok.injEq] at h
        subst h
        refine ⟨by simp [h1], fun v hv => ?_⟩
        rcases List.mem_cons.mp hv with rfl | hv
        · exact hw
        · exact h2 v hv
    · simp only [rest, hw, if_false] at h
      cases h
theorem readW_ok {l : List (List Nat)} {p : Pk} (h : readW l = .ok p) : ∃ w0 w r, l = w0 :: [58] :: w :: r ∧ isNum w0 ∧ p.1 = NumText.digitsVal w0 ∧ ((w = [45] ∧ r = [] ∧ p.2 = []) ∨ (p.2 = (w :: r).map NumText.digitsVal ∧ ∀ v ∈ w :: r, isNum v)) := by
  match l, h with
  | [], h => cases h
  | [w0], h =>
    simp only [readW] at h
    split at h <;> cases h
  | [w0, c], h =>
    simp only [readW] at h
    split at h
    · split at h <;> cases h
    · cases h
  | w0 :: c :: w :: r, h =>
    simp only [readW] at h
    split at h
    · rename_i h0
      split at h
      · rename_i h1
        subst h1
        split at h
        · rename_i h2
          split at h
          · rename_i h3
            cases h
            exact ⟨w0, w, r, rfl, h0, rfl, .inl ⟨h2, h3, rfl⟩⟩
          · cases h
        · cases q : rest 2 (w :: r) with
          | error j => rw [q] at h; cases h
          | ok ps =>
            rw [q] at h
            cases h
            exact ⟨w0, w, r, rfl, h0, rfl, .inr (rest_ok q)⟩
      · cases h
    · cases h
theorem num_map {l : List (List Nat)} (h : ∀ v ∈ l, isNum v) : (l.map NumText.digitsVal).map numL = l := by
  rw [List.map_map]
  have : l.map id = l := List.map_id l
  conv => rhs; rw [← this]
  apply List.map_congr_left
  intro v hv
  exact num_of (h v hv)
theorem line_of {y : List Nat} {p : Pk} (h : readW (cutC 32 y) = .ok p) : lineP p = y := by
  have j := join_cut 32 y
  obtain ⟨w0, w, r, e, h0, h1, h2⟩ := readW_ok h
  rw [e] at j
  obtain ⟨t, ps⟩ := p
  simp only at h1 h2
  subst h1
  rw [← j, joinL_cons, joinL_cons]
  unfold lineP
  rcases h2 with ⟨rfl, rfl, rfl⟩ | ⟨rfl, h3⟩
  · simp only [num_of h0, partsT, if_true]
    simp [joinL]
  · have hne : (w :: r).map NumText.digitsVal ≠ [] := by simp
    simp only [num_of h0, partsT, hne, if_false, num_map h3]
    simp
theorem small_of {y : List Nat} {p : Pk} (h : readW (cutC 32 y) = .ok p) (hl : ∀ w ∈ cutC 32 y, w.length ≤ 100) (hy : y.length ≤ 80000) : Gp p := by
  refine ⟨?_, ?_, by rw [line_of h]; exact hy⟩
  · obtain ⟨w0, w, r, e, h0, h1, h2⟩ := readW_ok h
    rw [h1]
    exact val_small h0.2.1 (hl w0 (by rw [e]; simp))
  · obtain ⟨w0, w, r, e, h0, h1, h2⟩ := readW_ok h
    intro n hn
    rcases h2 with ⟨_, _, h3⟩ | ⟨h3, h4⟩
    · rw [h3] at hn
      cases hn
    · rw [h3] at hn
      obtain ⟨v, hv, rfl⟩ := List.mem_map.mp hn
      exact val_small (h4 v hv).2.1 (hl v (by rw [e]; exact List.mem_cons_of_mem _ (List.mem_cons_of_mem _ hv)))
theorem allR_ok : ∀ {r : List (List Nat)} {k : Nat} {l : List Pk}, allR k r = .ok l → l.map lineP = r ∧ ((∀ y ∈ r, y.length ≤ 80000 ∧ ∀ w ∈ cutC 32 y, w.length ≤ 100) → ∀ p ∈ l, Gp p)
  | [], k, l, h => by
    simp [allR] at h
    subst h
    exact ⟨rfl, fun _ p hp => nomatch hp⟩
  | y :: r, k, l, h => by
    simp only [allR] at h
    split at h
    · rename_i p q
      cases q2 : allR (k + 1) r with
      | error ab => rw [q2] at h; cases h
      | ok l2 =>
        rw [q2] at h
        obtain ⟨h1, h2⟩ := allR_ok q2
        cases h
        refine ⟨by simp [h1, line_of q], fun hg p' hp => ?_⟩
        rcases List.mem_cons.mp hp with rfl | hp
        · obtain ⟨g1, g2⟩ := hg y (by simp)
          exact small_of q g2 g1
        · exact h2 (fun z hz => hg z (List.mem_cons_of_mem _ hz)) p' hp
    · cases h
def pageP (l : List Pk) : List Nat := if l = [] then [45] else joinL [10] (l.map lineP)
/-- a text that is read is the text of what was read -/
theorem page_of {x : List Nat} {l : List Pk} (h : readP x = .ok l) : pageP l = x := by
  have j := join_cut 10 x
  unfold readP readL at h
  obtain ⟨y0, r, e⟩ := List.exists_cons_of_ne_nil (cutC_ne 10 x)
  rw [e] at h j
  split at h
  · rename_i h1
    split at h
    · cases h
    · rename_i h2
      split at h
      · cases h
      · rename_i h3
        cases h
        have hr : r = [] := by
          cases r with
          | nil => rfl
          | cons b r => exact absurd (by simp) h3
        subst hr
        simp only [List.headD_cons] at h1 h2
        have j2 := join_cut 32 y0
        obtain ⟨w0, s, e2⟩ := List.exists_cons_of_ne_nil (cutC_ne 32 y0)
        rw [e2] at h1 h2 j2
        have hs : s = [] := by
          cases s with
          | nil => rfl
          | cons b s => exact absurd (by simp) h2
        subst hs
        simp only [List.headD_cons] at h1
        subst h1
        show [45] = x
        rw [← j, ← j2]
        rfl
  · obtain ⟨h1, _⟩ := allR_ok h
    have hne : l ≠ [] := by
      intro z
      subst z
      cases h1
    unfold pageP
    rw [if_neg hne, h1, j]
theorem good_of {x : List Nat} {l : List Pk} (hx : Gx x) (h : readP x = .ok l) : (∀ p ∈ l, Gp p) ∧ l.length ≤ 40001 := by
  unfold readP readL at h
  split at h
  · split at h
    · cases h
    · split at h
      · cases h
      · cases h
        simp
  · obtain ⟨h1, h2⟩ := allR_ok h
    refine ⟨h2 fun y hy => hx.line hy, ?_⟩
    have := congrArg List.length h1
    rw [List.length_map] at this
    have := cut_len 10 x
    have := hx.1
    omega
section
variable {ws : List Ce}
theorem from_nat {n : Nat} : m_is_from_nought [nat n] ws = .ok (.bl true) ws := by
  have ti : tab_int.lookup (.b "int") = some true := rfl
  have tb : tab_bool.lookup (.b "int") = some false := rfl
  have q : decide ((0 : Int) ≤ (n : Int)) = true := by simp
  simp only [m_is_from_nought, g_is_from_nought, N_is_from_nought, bodyM, startD, sSeq, sIfS, sB, sNot, sNotV, sAnd, sAndT, sOrT, sOp, sVar, sC, sRet, sExpr, sSet, sAsg, sPar, sAug, sCons, sNil, sTup, sLst, sCall, sCB, fb1, ↓RL.bind_m, R.ofO_some, R.ofO_none, R.ofO, List.map_cons, List.map_nil, List.length_cons, List.length_nil, List.cons_append, List.nil_append, List.append_nil, List.replicate, List.set_cons_zero, List.set_cons_succ, List.getElem?_cons_zero, List.getElem?_cons_succ, Option.bind_some, Option.map_some, Option.bind_none, Option.map_none, if_true, if_false, Bool.false_eq_true, decide_true, decide_false, Nat.reduceAdd, Nat.reduceSub, Bool.not_true, Bool.not_false, sIf, sYes, sNext, sBad, tgName, tgTup, tgCons, tgNil, tupOf, seqOf, lstOf, ↓reduceIte, Nat.zero_le, Nat.reduceLeDiff, sIsi, nat, tyD, ti, tb, fGe, fI, q, fin_rt]
theorem lc_true {all : List D} {t : Tg} {el : Se} {ρ : List (Option D)} {ds : List D} (hl : ds.length ≤ 100000) (h : ∀ d ∈ ds, ∃ ρ1, t d ρ ws = .ok ρ1 ws ∧ el ρ1 ws = .ok (.bl true) ws) : ∃ l, loopLc all none t sYes el ρ ds [] ws = .ok l ws ∧ gAll ws (.lst l) = some (.bl true) := by
  have z := lc_map (src := none) (t := t) (el := el) (ρ := ρ) (ws := ws) (all := all) (f := fun _ => .bl true) trivial ds [] (by simpa using hl) h
  refine ⟨_, z, ?_⟩
  have e : ds.map (fun _ => D.bl true) = (ds.map fun _ => true).map .bl := by rw [List.map_map]; rfl
  rw [List.nil_append, e]
  simp only [gAll, lstOf, Option.bind_some, bls_map, Option.map_some]
  congr 2
  simp
theorem is_pk {p : Pk} (h : p.2.length ≤ 100000) : m_is_packet [oPk p.1 p.2] ws = .ok (.bl true) ws := by
  obtain ⟨t, ps⟩ := p
  have i0 : insOf ws "Packet" (oPk t ps) = some ((["tick", "parts"] : List Str), [nat t, .tup (nats ps)]) := rfl
  have k0 : okI ["tick", "parts"] "tick" 0 = true := by decide
  have k1 : okI ["tick", "parts"] "parts" 1 = true := by decide
  have tp : tab_Packet.lookup (.c "Packet") = some true := rfl
  have tt : tab_tuple.lookup (.b "tuple") = some true := rfl
  have ty : tyD ws (oPk t ps) = some (.c "Packet") := rfl
  have ty2 : tyD ws (.tup (nats ps)) = some (.b "tuple") := rfl
  obtain ⟨l, z, g⟩ := lc_true (ws := ws) (all := nats ps) (t := tgName 1) (el := sCall m_is_from_nought (sCons (sVar 1) sNil)) (ρ := [some (oPk t ps), none]) (ds := nats ps) (by simpa [nats] using h) (by
    intro d hd
    obtain ⟨n, _, rfl⟩ := List.mem_map.mp hd
    refine ⟨_, rfl, ?_⟩
    simp only [bodyM, startD, sSeq, sIfS, sB, sNot, sNotV, sAnd, sAndT, sOrT, sOp, sVar, sC, sRet, sExpr, sSet, sAsg, sPar, sAug, sCons, sNil, sTup, sLst, sCall, sCB, fb1, ↓RL.bind_m, R.ofO_some, R.ofO_none, R.ofO, List.map_cons, List.map_nil, List.length_cons, List.length_nil, List.cons_append, List.nil_append, List.append_nil, List.replicate, List.set_cons_zero, List.set_cons_succ, List.getElem?_cons_zero, List.getElem?_cons_succ, Option.bind_some, Option.map_some, Option.bind_none, Option.map_none, if_true, if_false, Bool.false_eq_true, decide_true, decide_false, Nat.reduceAdd, Nat.reduceSub, Bool.not_true, Bool.not_false, sIf, sYes, sNext, sBad, tgName, tgTup, tgCons, tgNil, tupOf, seqOf, lstOf, ↓reduceIte, Nat.zero_le, Nat.reduceLeDiff, from_nat])
  simp only [m_is_packet, g_is_packet, N_is_packet, bodyM, startD, sSeq, sIfS, sB, sNot, sNotV, sAnd, sAndT, sOrT, sOp, sVar, sC, sRet, sExpr, sSet, sAsg, sPar, sAug, sCons, sNil, sTup, sLst, sCall, sCB, fb1, ↓RL.bind_m, R.ofO_some, R.ofO_none, R.ofO, List.map_cons, List.map_nil, List.length_cons, List.length_nil, List.cons_append, List.nil_append, List.append_nil, List.replicate, List.set_cons_zero, List.set_cons_succ, List.getElem?_cons_zero, List.getElem?_cons_succ, Option.bind_some, Option.map_some, Option.bind_none, Option.map_none, if_true, if_false, Bool.false_eq_true, decide_true, decide_false, Nat.reduceAdd, Nat.reduceSub, Bool.not_true, Bool.not_false, sIf, sYes, sNext, sBad, tgName, tgTup, tgCons, tgNil, tupOf, seqOf, lstOf, ↓reduceIte, Nat.zero_le, Nat.reduceLeDiff, sIsi, ty, tp, sAttr, i0, k0, k1, from_nat, ty2, tt, sLc, sLcG, sItT, wipeD, z, fzL, g, fin_rt]
theorem lens_pk {p : Pk} (h : Gp p) : p.2.length ≤ 80001 := by
  obtain ⟨t, ps⟩ := p
  have h3 := h.2.2
  have hl : (lineP (t, ps)).length = (numL t).length + 3 + (partsT ps).length := by
    simp [lineP]
    omega
  by_cases h0 : ps = []
  · simp [h0]
  · have := joinL_len 32 (ps.map numL) (by simpa using h0)
    have e : partsT ps = joinL [32] (ps.map numL) := by simp [partsT, h0]
    rw [List.length_map] at this
    rw [e] at hl
    simp only
    omega
theorem lc_txt {all : List D} {x : Option D} : ∀ (l : List Pk) (acc : List D), (∀ p ∈ l, Gp p) → acc.length + l.length ≤ 100000 →
    loopLc all none (tgName 1) sYes (sStrO "Packet" m_Packet___str__ (sCons (sVar 1) sNil)) [x, none] (dPs l) acc ws = .ok (acc ++ (l.map lineP).map dW) ws
  | [], acc, _, _ => by simp [loopLc, SrcOk, dPs]
  | p :: l, acc, h, hn => by
    have g := packet_str (ws := ws) (h p (by simp))
    have hn' : acc.length < 100000 := by
      simp at hn
      omega
    have ih := lc_txt (all := all) (x := x) l (acc ++ [dW (lineP p)]) (fun m hm => h m (List.mem_cons_of_mem _ hm)) (by simp at hn ⊢; omega)
    have ii : isIns "Packet" ws (oPk p.1 p.2) = true := rfl
    show loopLc all none (tgName 1) sYes _ _ (oPk p.1 p.2 :: dPs l) acc ws = _
    simp only [loopLc, SrcOk, if_true, tgName, List.set_cons_zero, List.set_cons_succ, nox, R.bind_ok, sYes, sStrO, sCons, sVar, List.getElem?_cons_zero, List.getElem?_cons_succ, sNil, ii, g, dW]
    simp only [dW] at ih
    simp only [hn', if_true, ih]
    simp [dW]
theorem nl_Sx : ("\n" : Str) = Sx [10] := nl_str
theorem packets_text_aux {l : List Pk} (h : ∀ p ∈ l, Gp p) (hl : l.length ≤ 90000) (hp : (pageP l).length ≤ 90000) (d : D) (hd : d = .lst (dPs l) ∨ d = .tup (dPs l)) : m_packets_text [d] ws = .ok (dW (pageP l)) ws := by
  have t1 : tabT_list_tuple.lookup (.b "list") = some true := rfl
  have t2 : tabT_list_tuple.lookup (.b "tuple") = some true := rfl
  have nl : (dPs l).length = l.length := by simp [dPs]
  obtain ⟨bl, z, g⟩ := lc_true (ws := ws) (all := dPs l) (t := tgName 1) (el := sCall m_is_packet (sCons (sVar 1) sNil)) (ρ := [some d, none]) (ds := dPs l) (by omega) (by
    intro d hd
    obtain ⟨p, hp, rfl⟩ := List.mem_map.mp hd
    refine ⟨_, rfl, ?_⟩
    have := lens_pk (h p hp)
    have e := is_pk (ws := ws) (p := p) (by omega)
    simp only [bodyM, startD, sSeq, sIfS, sB, sNot, sNotV, sAnd, sAndT, sOrT, sOp, sVar, sC, sRet, sExpr, sSet, sAsg, sPar, sAug, sCons, sNil, sTup, sLst, sCall, sCB, fb1, ↓RL.bind_m, R.ofO_some, R.ofO_none, R.ofO, List.map_cons, List.map_nil, List.length_cons, List.length_nil, List.cons_append, List.nil_append, List.append_nil, List.replicate, List.set_cons_zero, List.set_cons_succ, List.getElem?_cons_zero, List.getElem?_cons_succ, Option.bind_some, Option.map_some, Option.bind_none, Option.map_none, if_true, if_false, Bool.false_eq_true, decide_true, decide_false, Nat.reduceAdd, Nat.reduceSub, Bool.not_true, Bool.not_false, sIf, sYes, sNext, sBad, tgName, tgTup, tgCons, tgNil, tupOf, seqOf, lstOf, ↓reduceIte, Nat.zero_le, Nat.reduceLeDiff, e])
  have lt := lc_txt (ws := ws) (all := dPs l) (x := some d) l [] h (by simp; omega)
  rw [List.nil_append] at lt
  have gt0 : decide ((0 : Int) < (l.length : Int)) = decide (l ≠ []) := decide_eq_decide.mpr (by cases l <;> simp <;> omega)
  have st : isTy "str" ws (D.str (Sx [10])) = true := rfl
  by_cases h0 : l = []
  · subst h0
    have e : pageP [] = [45] := rfl
    rcases hd with rfl | rfl
    · simp only [m_packets_text, g_packets_text, N_packets_text, bodyM, startD, sSeq, sIfS, sB, sNot, sNotV, sAnd, sAndT, sOrT, sOp, sVar, sC, sRet, sExpr, sSet, sAsg, sPar, sAug, sCons, sNil, sTup, sLst, sCall, sCB, fb1, ↓RL.bind_m, R.ofO_some, R.ofO_none, R.ofO, List.map_cons, List.map_nil, List.length_cons, List.length_nil, List.cons_append, List.nil_append, List.append_nil, List.replicate, List.set_cons_zero, List.set_cons_succ, List.getElem?_cons_zero, List.getElem?_cons_succ, Option.bind_some, Option.map_some, Option.bind_none, Option.map_none, if_true, if_false, Bool.false_eq_true, decide_true, decide_false, Nat.reduceAdd, Nat.reduceSub, Bool.not_true, Bool.not_false, sIf, sYes, sNext, sBad, tgName, tgTup, tgCons, tgNil, tupOf, seqOf, lstOf, ↓reduceIte, Nat.zero_le, Nat.reduceLeDiff, sIsi, tyD, t1, sLc, sLcG, sItQ, itOf2, itOf, wipeD, z, fzL, g, gLen, nl, fGt, fI, show decide ((0 : Int) < ((0 : Nat) : Int)) = false from rfl, fin_rt, e, s_minus]
    · simp only [m_packets_text, g_packets_text, N_packets_text, bodyM, startD, sSeq, sIfS, sB, sNot, sNotV, sAnd, sAndT, sOrT, sOp, sVar, sC, sRet, sExpr, sSet, sAsg, sPar, sAug, sCons, sNil, sTup, sLst, sCall, sCB, fb1, ↓RL.bind_m, R.ofO_some, R.ofO_none, R.ofO, List.map_cons, List.map_nil, List.length_cons, List.length_nil, List.cons_append, List.nil_append, List.append_nil, List.replicate, List.set_cons_zero, List.set_cons_succ, List.getElem?_cons_zero, List.getElem?_cons_succ, Option.bind_some, Option.map_some, Option.bind_none, Option.map_none, if_true, if_false, Bool.false_eq_true, decide_true, decide_false, Nat.reduceAdd, Nat.reduceSub, Bool.not_true, Bool.not_false, sIf, sYes, sNext, sBad, tgName, tgTup, tgCons, tgNil, tupOf, seqOf, lstOf, ↓reduceIte, Nat.zero_le, Nat.reduceLeDiff, sIsi, tyD, t2, sLc, sLcG, sItQ, itOf2, itOf, wipeD, z, fzL, g, gLen, nl, fGt, fI, show decide ((0 : Int) < ((0 : Nat) : Int)) = false from rfl, fin_rt, e, s_minus]
  · have e : pageP l = joinL [10] (l.map lineP) := by simp [pageP, h0]
    rw [e] at hp ⊢
    have jd := join_do (ws := ws) (c := 10) (ps := l.map lineP) hp
    rcases hd with rfl | rfl
    · simp only [m_packets_text, g_packets_text, N_packets_text, bodyM, startD, sSeq, sIfS, sB, sNot, sNotV, sAnd, sAndT, sOrT, sOp, sVar, sC, sRet, sExpr, sSet, sAsg, sPar, sAug, sCons, sNil, sTup, sLst, sCall, sCB, fb1, ↓RL.bind_m, R.ofO_some, R.ofO_none, R.ofO, List.map_cons, List.map_nil, List.length_cons, List.length_nil, List.cons_append, List.nil_append, List.append_nil, List.replicate, List.set_cons_zero, List.set_cons_succ, List.getElem?_cons_zero, List.getElem?_cons_succ, Option.bind_some, Option.map_some, Option.bind_none, Option.map_none, if_true, if_false, Bool.false_eq_true, decide_true, decide_false, Nat.reduceAdd, Nat.reduceSub, Bool.not_true, Bool.not_false, sIf, sYes, sNext, sBad, tgName, tgTup, tgCons, tgNil, tupOf, seqOf, lstOf, ↓reduceIte, Nat.zero_le, Nat.reduceLeDiff, sIsi, tyD, t1, sLc, sLcG, sItQ, itOf2, itOf, wipeD, z, fzL, g, gLen, nl, fGt, fI, gt0, h0, ne_eq, not_false_eq_true, sMB, nl_str, st, lt, fmJoin, strs_dW, jd, fin_rt]
    · simp only [m_packets_text, g_packets_text, N_packets_text, bodyM, startD, sSeq, sIfS, sB, sNot, sNotV, sAnd, sAndT, sOrT, sOp, sVar, sC, sRet, sExpr, sSet, sAsg, sPar, sAug, sCons, sNil, sTup, sLst, sCall, sCB, fb1, ↓RL.bind_m, R.ofO_some, R.ofO_none, R.ofO, List.map_cons, List.map_nil, List.length_cons, List.length_nil, List.cons_append, List.nil_append, List.append_nil, List.replicate, List.set_cons_zero, List.set_cons_succ, List.getElem?_cons_zero, List.getElem?_cons_succ, Option.bind_some, Option.map_some, Option.bind_none, Option.map_none, if_true, if_false, Bool.false_eq_true, decide_true, decide_false, Nat.reduceAdd, Nat.reduceSub, Bool.not_true, Bool.not_false, sIf, sYes, sNext, sBad, tgName, tgTup, tgCons, tgNil, tupOf, seqOf, lstOf, ↓reduceIte, Nat.zero_le, Nat.reduceLeDiff, sIsi, tyD, t2, sLc, sLcG, sItQ, itOf2, itOf, wipeD, z, fzL, g, gLen, nl, fGt, fI, gt0, h0, ne_eq, not_false_eq_true, sMB, nl_str, st, lt, fmJoin, strs_dW, jd, fin_rt]
end
end K87
set_option Elab.async false
set_option linter.all false
set_option maxRecDepth 100000
set_option maxHeartbeats 4000000
namespace K87
open RL PySem L2 TL
theorem rest_err : ∀ {r : List (List Nat)} {k j : Nat}, rest k r = .error j → j ≤ k + r.length
  | [], k, j, h => by cases h
  | w :: r, k, j, h => by
    simp only [rest] at h
    split at h
    · cases q : rest (k + 1) r with
      | ok ps => rw [q] at h; cases h
      | error i =>
        rw [q] at h
        cases h
        have := rest_err q
        simp only [List.length_cons]
        omega
    · cases h
      omega
theorem readW_err {l : List (List Nat)} {j : Nat} (h : readW l = .error j) : j ≤ l.length + 3 := by
  match l, h with
  | [], h => cases h; omega
  | [w0], h =>
    simp only [readW] at h
    split at h <;> cases h <;> omega
  | [w0, c], h =>
    simp only [readW] at h
    split at h
    · split at h <;> cases h <;> simp
    · cases h
      omega
  | w0 :: c :: w :: r, h =>
    simp only [readW] at h
    split at h
    · split at h
      · split at h
        · split at h
          · cases h
          · cases h
            simp
        · cases q : rest 2 (w :: r) with
          | ok ps => rw [q] at h; cases h
          | error i =>
            rw [q] at h
            cases h
            have := rest_err q
            simp only [List.length_cons] at this ⊢
            omega
      · cases h
        simp
    · cases h
      omega
section
variable {ws : List Ce}
theorem numL_short {n : Nat} (h : n < 10 ^ 100) : (numL n).length ≤ 100 := numL_len (by decide) h
theorem repr_nat {n : Nat} (h : n < 10 ^ 100) : gReprA ws (.int (n : Nat)) = some (.str (numS n)) := by
  have h1 : toPyR ws (.int (n : Nat)) = some (.int (n : Nat)) := rfl
  have lg : (PyData.int (n : Nat)).showable = true := by
    simp only [PyData.showable, decide_eq_true_eq]
    exact log_small h
  have sh : (PyData.int (n : Nat)).shown = numS n := str_numS n
  have dp : (PyData.int (n : Nat)).depth ≤ 60 := by simp [PyData.depth]
  have ln : (numS n).length ≤ 100000 := by
    rw [numS, Sx_len]
    have := numL_short h
    omega
  simp only [gReprA, h1, Option.bind_some, lg, dp, sh, ln, and_self, if_true]
theorem heard_ok {ask : List Ce → R D} {d : D} {w2 : List Ce} (h : ask ws = .ok d w2) : m__law_heard ask ws = .ok (.lst [d]) w2 := by
  simp only [m__law_heard, hrd, h]
theorem heard_bt {ask : List Ce → R D} {a b : Nat} (h : ask ws = .ex (bt a b) ws) (ha : a < 10 ^ 100) (hb : b < 10 ^ 100) : m__law_heard ask ws = .ok (dErr a b) ws := by
  have lk : xcat.lookup ("BadText" : Str) = some true := rfl
  have x1 : fbIsX xcl_BadStream xtab_BadStream [.exc "BadText" ["word", "line"] [.int (b : Nat), .int (a : Nat)], .cls "BadStream"] ws = some (.bl false, ws) := rfl
  have x2 : fbIsX xcl_BadText xtab_BadText [.exc "BadText" ["word", "line"] [.int (b : Nat), .int (a : Nat)], .cls "BadText"] ws = some (.bl true, ws) := rfl
  have c1 : ("BadText" : Str) ∈ xcs_line := by simp [xcs_line]
  have c2 : ("BadText" : Str) ∈ xcs_word := by simp [xcs_word]
  have l1 : ((["word", "line"] : List Str).zip [D.int (b : Nat), .int (a : Nat)]).lookup ("line" : Str) = some (.int (a : Nat)) := rfl
  have l2 : ((["word", "line"] : List Str).zip [D.int (b : Nat), .int (a : Nat)]).lookup ("word" : Str) = some (.int (b : Nat)) := rfl
  simp only [bt] at h
  simp only [m__law_heard, hrd, h, lk, if_true, N__law_heard, g__law_heard, bodyM, startD, sSeq, sIfS, sB, sNot, sNotV, sAnd, sAndT, sOrT, sOp, sVar, sC, sRet, sExpr, sSet, sAsg, sPar, sAug, sCons, sNil, sTup, sLst, sCall, sCB, fb1, ↓RL.bind_m, R.ofO_some, R.ofO_none, R.ofO, List.map_cons, List.map_nil, List.length_cons, List.length_nil, List.cons_append, List.nil_append, List.append_nil, List.replicate, List.set_cons_zero, List.set_cons_succ, List.getElem?_cons_zero, List.getElem?_cons_succ, Option.bind_some, Option.map_some, Option.bind_none, Option.map_none, if_true, if_false, Bool.false_eq_true, decide_true, decide_false, Nat.reduceAdd, Nat.reduceSub, Bool.not_true, Bool.not_false, sIf, sYes, sNext, sBad, tgName, tgTup, tgCons, tgNil, tupOf, seqOf, lstOf, ↓reduceIte, Nat.zero_le, Nat.reduceLeDiff, x1, x2, sXf, c1, c2, l1, l2, repr_nat ha, repr_nat hb, flR, nox, dErr]
theorem heard_stream {ask : List Ce → R D} {s : Str} (h : ask ws = .ex ⟨"BadStream", ["part"], [.str s]⟩ ws) : m__law_heard ask ws = .ok (.tup [.str "stream", .str s]) ws := by
  have lk : xcat.lookup ("BadStream" : Str) = some true := rfl
  have x1 : fbIsX xcl_BadStream xtab_BadStream [.exc "BadStream" ["part"] [.str s], .cls "BadStream"] ws = some (.bl true, ws) := rfl
  have c1 : ("BadStream" : Str) ∈ xcs_part := by simp [xcs_part]
  have l1 : ((["part"] : List Str).zip [D.str s]).lookup ("part" : Str) = some (.str s) := rfl
  simp only [m__law_heard, hrd, h, lk, if_true, N__law_heard, g__law_heard, bodyM, startD, sSeq, sIfS, sB, sNot, sNotV, sAnd, sAndT, sOrT, sOp, sVar, sC, sRet, sExpr, sSet, sAsg, sPar, sAug, sCons, sNil, sTup, sLst, sCall, sCB, fb1, ↓RL.bind_m, R.ofO_some, R.ofO_none, R.ofO, List.map_cons, List.map_nil, List.length_cons, List.length_nil, List.cons_append, List.nil_append, List.append_nil, List.replicate, List.set_cons_zero, List.set_cons_succ, List.getElem?_cons_zero, List.getElem?_cons_succ, Option.bind_some, Option.map_some, Option.bind_none, Option.map_none, if_true, if_false, Bool.false_eq_true, decide_true, decide_false, Nat.reduceAdd, Nat.reduceSub, Bool.not_true, Bool.not_false, sIf, sYes, sNext, sBad, tgName, tgTup, tgCons, tgNil, tupOf, seqOf, lstOf, ↓reduceIte, Nat.zero_le, Nat.reduceLeDiff, x1, sXf, c1, l1, flR, nox]
/-- what is due -/
def dueD : Except (Nat × Nat) (List Pk) → D
  | .ok _ => .non
  | .error (a, b) => dErr a b
theorem sub_lst {d : D} : tab_list.lookup (.b "list") = some true := rfl
/-- the lines from k on, as the law asks -/
theorem loop_due {L : List (List Nat)} {c : Option D} {all : List D} (hL : L.length ≤ 90000) : ∀ (r : List (List Nat)) (k : Nat) (u v w : Option D), L.drop k = r → (∀ y ∈ r, y.length ≤ 80000 ∧ ∀ w ∈ cutC 32 y, w.length ≤ 100) →
    ∃ u' v' w', loopFor all none (tgName 2) b__law_due_0 (intsD (k : Nat) r.length) [c, some (dWs L), u, v, w] ws = match allR k r with
      | .ok _ => .ok ([c, some (dWs L), u', v', w'], .nx) ws
      | .error (a, b) => .ok ([c, some (dWs L), u', v', w'], .rt (dErr a b)) ws
  | [], k, u, v, w, _, _ => ⟨u, v, w, by simp [loopFor, SrcOk, intsD, allR]⟩
  | y :: r, k, u, v, w, hd, hg => by
    obtain ⟨g1, g2⟩ := hg y (by simp)
    have hk : L[k]? = some y := by
      have := congrArg (fun z => z[0]?) hd
      simpa using this
    have hkl : k < 90000 := by
      have := (List.getElem?_eq_some_iff.mp hk).1
      omega
    have hd2 : L.drop (k + 1) = r := by
      rw [← List.drop_drop, hd]
      rfl
    have pr := packet_read (ws := ws) g1 g2
    have ix : fIx ws (dWs L) (.int (k : Nat)) = some (dW y) := by rw [ix_dWs, hk]; rfl
    rw [List.length_cons, intsD_cons]
    have tl1 : tab_list.lookup (.b "list") = some true := rfl
    have tl2 : tab_list.lookup (.b "tuple") = some false := rfl
    cases q : readW (cutC 32 y) with
    | ok p =>
      obtain ⟨t, ps⟩ := p
      rw [q] at pr
      simp only [rdR] at pr
      have hh : m__law_heard (fun ws1 => sCm "Packet" m_Packet_read (sCons (sVar 3) sNil) [c, some (dWs L), some (.int (k : Nat)), some (dW y), w] ws1) ws = .ok (.lst [oPk t ps]) ws := heard_ok (by simp only [sCm, bodyM, startD, sSeq, sIfS, sB, sNot, sNotV, sAnd, sAndT, sOrT, sOp, sVar, sC, sRet, sExpr, sSet, sAsg, sPar, sAug, sCons, sNil, sTup, sLst, sCall, sCB, fb1, ↓RL.bind_m, R.ofO_some, R.ofO_none, R.ofO, List.map_cons, List.map_nil, List.length_cons, List.length_nil, List.cons_append, List.nil_append, List.append_nil, List.replicate, List.set_cons_zero, List.set_cons_succ, List.getElem?_cons_zero, List.getElem?_cons_succ, Option.bind_some, Option.map_some, Option.bind_none, Option.map_none, if_true, if_false, Bool.false_eq_true, decide_true, decide_false, Nat.reduceAdd, Nat.reduceSub, Bool.not_true, Bool.not_false, sIf, sYes, sNext, sBad, tgName, tgTup, tgCons, tgNil, tupOf, seqOf, lstOf, ↓reduceIte, Nat.zero_le, Nat.reduceLeDiff, pr])
      have hb : b__law_due_0 [c, some (dWs L), some (.int (k : Nat)), v, w] ws = .ok ([c, some (dWs L), some (.int (k : Nat)), some (dW y), some (.lst [oPk t ps])], .nx) ws := by
        simp only [b__law_due_0, bodyM, startD, sSeq, sIfS, sB, sNot, sNotV, sAnd, sAndT, sOrT, sOp, sVar, sC, sRet, sExpr, sSet, sAsg, sPar, sAug, sCons, sNil, sTup, sLst, sCall, sCB, fb1, ↓RL.bind_m, R.ofO_some, R.ofO_none, R.ofO, List.map_cons, List.map_nil, List.length_cons, List.length_nil, List.cons_append, List.nil_append, List.append_nil, List.replicate, List.set_cons_zero, List.set_cons_succ, List.getElem?_cons_zero, List.getElem?_cons_succ, Option.bind_some, Option.map_some, Option.bind_none, Option.map_none, if_true, if_false, Bool.false_eq_true, decide_true, decide_false, Nat.reduceAdd, Nat.reduceSub, Bool.not_true, Bool.not_false, sIf, sYes, sNext, sBad, tgName, tgTup, tgCons, tgNil, tupOf, seqOf, lstOf, ↓reduceIte, Nat.zero_le, Nat.reduceLeDiff, ix, sAsk, hh, sIsi, tyD, tl1]
      obtain ⟨u', v', w', ih⟩ := loop_due (c := c) (all := all) hL r (k + 1) (some (.int (k : Nat))) (some (dW y)) (some (.lst [oPk t ps])) hd2 fun z hz => hg z (List.mem_cons_of_mem _ hz)
      refine ⟨u', v', w', ?_⟩
      have st : loopFor all none (tgName 2) b__law_due_0 (D.int (k : Nat) :: intsD ((k + 1 : Nat) : Int) r.length) [c, some (dWs L), u, v, w] ws = loopFor all none (tgName 2) b__law_due_0 (intsD ((k + 1 : Nat) : Int) r.length) [c, some (dWs L), some (.int (k : Nat)), some (dW y), some (.lst [oPk t ps])] ws := by
        simp only [loopFor, SrcOk, if_true, tgName, List.set_cons_zero, List.set_cons_succ, R.bind_ok, hb]
      rw [st, ih]
      simp only [allR, q]
      cases allR (k + 1) r <;> rfl
    | error j =>
      rw [q] at pr
      simp only [rdR] at pr
      have hj : j < 10 ^ 100 := by
        have h1 := readW_err q
        have h2 := cut_len 32 y
        exact Nat.lt_of_le_of_lt (show j ≤ 80010 by omega) (by decide +kernel)
      have hh : m__law_heard (fun ws1 => sCm "Packet" m_Packet_read (sCons (sVar 3) sNil) [c, some (dWs L), some (.int (k : Nat)), some (dW y), w] ws1) ws = .ok (dErr 0 j) ws := heard_bt (a := 0) (by
        simp only [sCm, bodyM, startD, sSeq, sIfS, sB, sNot, sNotV, sAnd, sAndT, sOrT, sOp, sVar, sC, sRet, sExpr, sSet, sAsg, sPar, sAug, sCons, sNil, sTup, sLst, sCall, sCB, fb1, ↓RL.bind_m, R.ofO_some, R.ofO_none, R.ofO, List.map_cons, List.map_nil, List.length_cons, List.length_nil, List.cons_append, List.nil_append, List.append_nil, List.replicate, List.set_cons_zero, List.set_cons_succ, List.getElem?_cons_zero, List.getElem?_cons_succ, Option.bind_some, Option.map_some, Option.bind_none, Option.map_none, if_true, if_false, Bool.false_eq_true, decide_true, decide_false, Nat.reduceAdd, Nat.reduceSub, Bool.not_true, Bool.not_false, sIf, sYes, sNext, sBad, tgName, tgTup, tgCons, tgNil, tupOf, seqOf, lstOf, ↓reduceIte, Nat.zero_le, Nat.reduceLeDiff, pr]
        rfl) (by decide +kernel) hj
      have sk : gStr ws (.int (k : Nat)) = some (.str (numS k)) := str_of (Nat.lt_trans hkl (by decide +kernel))
      have i2 : fIx ws (dErr 0 j) (.int 2) = some (.str (numS j)) := by simp only [fIx, dErr, seqOf, Option.bind_some, at2]
      have l3 : gLen ws (dErr 0 j) = some (.int ((3 : Nat) : Int)) := rfl
      have e3 : fEqS ws (.int ((3 : Nat) : Int)) (.int 3) = some (.bl true) := rfl
      have ty : tyD ws (dErr 0 j) = some (.b "tuple") := rfl
      have hb : b__law_due_0 [c, some (dWs L), some (.int (k : Nat)), v, w] ws = .ok ([c, some (dWs L), some (.int (k : Nat)), some (dW y), some (dErr 0 j)], .rt (dErr k j)) ws := by
        simp only [b__law_due_0, bodyM, startD, sSeq, sIfS, sB, sNot, sNotV, sAnd, sAndT, sOrT, sOp, sVar, sC, sRet, sExpr, sSet, sAsg, sPar, sAug, sCons, sNil, sTup, sLst, sCall, sCB, fb1, ↓RL.bind_m, R.ofO_some, R.ofO_none, R.ofO, List.map_cons, List.map_nil, List.length_cons, List.length_nil, List.cons_append, List.nil_append, List.append_nil, List.replicate, List.set_cons_zero, List.set_cons_succ, List.getElem?_cons_zero, List.getElem?_cons_succ, Option.bind_some, Option.map_some, Option.bind_none, Option.map_none, if_true, if_false, Bool.false_eq_true, decide_true, decide_false, Nat.reduceAdd, Nat.reduceSub, Bool.not_true, Bool.not_false, sIf, sYes, sNext, sBad, tgName, tgTup, tgCons, tgNil, tupOf, seqOf, lstOf, ↓reduceIte, Nat.zero_le, Nat.reduceLeDiff, ix, sAsk, hh, sIsi, ty, tl2, l3, e3, sk, i2]
        rfl
      refine ⟨some (.int (k : Nat)), some (dW y), some (dErr 0 j), ?_⟩
      simp only [allR, q]
      simp only [loopFor, SrcOk, if_true, tgName, List.set_cons_zero, List.set_cons_succ, R.bind_ok, hb]
end
end K87
set_option Elab.async false
set_option linter.all false
set_option maxRecDepth 100000
set_option maxHeartbeats 4000000
namespace K87
open RL PySem L2 TL
section
variable {ws : List Ce}
theorem allR_err : ∀ {r : List (List Nat)} {k a b : Nat}, allR k r = .error (a, b) → a ≤ k + r.length ∧ ∃ y ∈ r, readW (cutC 32 y) = .error b
  | [], k, a, b, h => by cases h
  | y :: r, k, a, b, h => by
    simp only [allR] at h
    split at h
    · cases q : allR (k + 1) r with
      | ok ps => rw [q] at h; cases h
      | error i =>
        rw [q] at h
        cases h
        obtain ⟨h1, z, h2, h3⟩ := allR_err q
        exact ⟨by simp only [List.length_cons]; omega, z, List.mem_cons_of_mem _ h2, h3⟩
    · rename_i w q
      cases h
      exact ⟨by omega, y, by simp, q⟩
theorem readP_err {x : List Nat} {a b : Nat} (hx : Gx x) (h : readP x = .error (a, b)) : a < 10 ^ 100 ∧ b < 10 ^ 100 := by
  have big : ∀ n ≤ 100000, n < 10 ^ 100 := fun n hn => Nat.lt_of_le_of_lt hn (by decide +kernel)
  unfold readP readL at h
  split at h
  · split at h
    · cases h
      exact ⟨by decide +kernel, by decide +kernel⟩
    · split at h
      · cases h
        exact ⟨by decide +kernel, by decide +kernel⟩
      · cases h
  · obtain ⟨h1, y, h2, h3⟩ := allR_err h
    have := cut_len 10 x
    have := hx.1
    have := (hx.line h2).1
    have := readW_err h3
    have := cut_len 32 y
    exact ⟨big a (by omega), big b (by omega)⟩
theorem num01 : numS 0 = "0" ∧ numS 1 = "1" := by decide +kernel
theorem due_ok {x : List Nat} (hx : Gx x) : m__law_due [dW x] ws = .ok (dueD (readP x)) ws := by
  have h1 := hx.1
  have sn := split_nl (ws := ws) (x := x) (by omega)
  have hl := cut_len 10 x
  have hg : ∀ y ∈ cutC 10 x, y.length ≤ 80000 ∧ ∀ w ∈ cutC 32 y, w.length ≤ 100 := fun y hy => hx.line hy
  obtain ⟨y0, r, e⟩ := List.exists_cons_of_ne_nil (cutC_ne 10 x)
  unfold readP
  generalize hL : cutC 10 x = L at hl hg e sn
  obtain ⟨w0, s, e2⟩ := List.exists_cons_of_ne_nil (cutC_ne 32 y0)
  have i0 : fIx ws (dWs L) (.int 0) = some (dW y0) := by rw [ix0, e]; rfl
  have y0l := (hg y0 (by rw [e]; simp)).1
  have s2 := split_sp (ws := ws) (x := y0) (by omega)
  have i1 : fIx ws (dWs (cutC 32 y0)) (.int 0) = some (dW w0) := by rw [ix0, e2]; rfl
  have c1 : cutC 32 (L.headD []) = cutC 32 y0 := by rw [e]; rfl
  have c0 : (cutC 32 y0).headD [] = w0 := by rw [e2]; rfl
  have st : isTy "str" ws (dW x) = true := rfl
  have st0 : isTy "str" ws (dW y0) = true := rfl
  have eq1 : decide ((L.length : Int) = 1) = decide (L.length = 1) := decide_eq_decide.mpr (by omega)
  have hL0 : L.length = r.length + 1 := by rw [e]; rfl
  by_cases hm : w0 = [45]
  · have hj := join_cut 32 y0
    rw [e2] at hj
    by_cases h2 : 1 < (cutC 32 y0).length
    · have er : readL L = .error (0, 1) := by simp only [readL, c1, c0, hm, if_true, h2]
      have hne : ¬ y0 = [45] := by
        intro z
        rw [z] at h2
        exact absurd h2 (by decide)
      simp only [m__law_due, g__law_due, N__law_due, bodyM, startD, sSeq, sIfS, sB, sNot, sNotV, sAnd, sAndT, sOrT, sOp, sVar, sC, sRet, sExpr, sSet, sAsg, sPar, sAug, sCons, sNil, sTup, sLst, sCall, sCB, fb1, ↓RL.bind_m, R.ofO_some, R.ofO_none, R.ofO, List.map_cons, List.map_nil, List.length_cons, List.length_nil, List.cons_append, List.nil_append, List.append_nil, List.replicate, List.set_cons_zero, List.set_cons_succ, List.getElem?_cons_zero, List.getElem?_cons_succ, Option.bind_some, Option.map_some, Option.bind_none, Option.map_none, if_true, if_false, Bool.false_eq_true, decide_true, decide_false, Nat.reduceAdd, Nat.reduceSub, Bool.not_true, Bool.not_false, sIf, sYes, sNext, sBad, tgName, tgTup, tgCons, tgNil, tupOf, seqOf, lstOf, ↓reduceIte, Nat.zero_le, Nat.reduceLeDiff, sMB, st, sn, i0, st0, s2, i1, s_minus, eq_str, hm, ne_str, hne, fin_rt, er, dueD, dErr, num01.1, num01.2]
    · have hs : s = [] := by
        rw [e2] at h2
        cases s with
        | nil => rfl
        | cons b s => exact absurd (by simp) h2
      have hy : y0 = [45] := by
        rw [← hj, hs, hm]
        rfl
      by_cases h3 : 1 < L.length
      · have er : readL L = .error (1, 0) := by simp only [readL, c1, c0, hm, if_true, h2, if_false, h3]
        have hq : ¬ L.length = 1 := by omega
        have q1 : fEqS ws (.int (L.length : Nat)) (.int 1) = some (.bl false) := by simp only [fEqS, scalEq, Option.map_some, eq1, hq, decide_false]
        have hyd : decide (y0 = [45]) = true := decide_eq_true hy
        simp only [m__law_due, g__law_due, N__law_due, bodyM, startD, sSeq, sIfS, sB, sNot, sNotV, sAnd, sAndT, sOrT, sOp, sVar, sC, sRet, sExpr, sSet, sAsg, sPar, sAug, sCons, sNil, sTup, sLst, sCall, sCB, fb1, ↓RL.bind_m, R.ofO_some, R.ofO_none, R.ofO, List.map_cons, List.map_nil, List.length_cons, List.length_nil, List.cons_append, List.nil_append, List.append_nil, List.replicate, List.set_cons_zero, List.set_cons_succ, List.getElem?_cons_zero, List.getElem?_cons_succ, Option.bind_some, Option.map_some, Option.bind_none, Option.map_none, if_true, if_false, Bool.false_eq_true, decide_true, decide_false, Nat.reduceAdd, Nat.reduceSub, Bool.not_true, Bool.not_false, sIf, sYes, sNext, sBad, tgName, tgTup, tgCons, tgNil, tupOf, seqOf, lstOf, ↓reduceIte, Nat.zero_le, Nat.reduceLeDiff, sMB, st, sn, i0, st0, s2, i1, s_minus, eq_str, hm, ne_str, hyd, len_dWs, q1, er, dueD, dErr, num01.1, num01.2, fin_rt]
      · have er : readL L = .ok [] := by simp only [readL, c1, c0, hm, if_true, h2, if_false, h3]
        have hq : L.length = 1 := by omega
        have q1 : fEqS ws (.int (L.length : Nat)) (.int 1) = some (.bl true) := by
          rw [hq]
          rfl
        have hyd : decide (y0 = [45]) = true := decide_eq_true hy
        simp only [m__law_due, g__law_due, N__law_due, bodyM, startD, sSeq, sIfS, sB, sNot, sNotV, sAnd, sAndT, sOrT, sOp, sVar, sC, sRet, sExpr, sSet, sAsg, sPar, sAug, sCons, sNil, sTup, sLst, sCall, sCB, fb1, ↓RL.bind_m, R.ofO_some, R.ofO_none, R.ofO, List.map_cons, List.map_nil, List.length_cons, List.length_nil, List.cons_append, List.nil_append, List.append_nil, List.replicate, List.set_cons_zero, List.set_cons_succ, List.getElem?_cons_zero, List.getElem?_cons_succ, Option.bind_some, Option.map_some, Option.bind_none, Option.map_none, if_true, if_false, Bool.false_eq_true, decide_true, decide_false, Nat.reduceAdd, Nat.reduceSub, Bool.not_true, Bool.not_false, sIf, sYes, sNext, sBad, tgName, tgTup, tgCons, tgNil, tupOf, seqOf, lstOf, ↓reduceIte, Nat.zero_le, Nat.reduceLeDiff, sMB, st, sn, i0, st0, s2, i1, s_minus, eq_str, hm, ne_str, hyd, len_dWs, q1, er, dueD, fin_rt]
  · have er : readL L = allR 0 L := by simp only [readL, c1, c0, hm, if_false]
    obtain ⟨u', v', w', lp⟩ := loop_due (ws := ws) (L := L) (c := some (dW x)) (all := intsD 0 L.length) (by omega) L 0 none none none rfl hg
    have rg : (-1000000 : Int) ≤ (L.length : Int) ∧ (L.length : Int) ≤ 1000000 := by omega
    have hn : ((L.length : Int)).toNat = L.length := by omega
    rw [show ((0 : Nat) : Int) = 0 from rfl] at lp
    simp only [m__law_due, g__law_due, N__law_due, bodyM, startD, sSeq, sIfS, sB, sNot, sNotV, sAnd, sAndT, sOrT, sOp, sVar, sC, sRet, sExpr, sSet, sAsg, sPar, sAug, sCons, sNil, sTup, sLst, sCall, sCB, fb1, ↓RL.bind_m, R.ofO_some, R.ofO_none, R.ofO, List.map_cons, List.map_nil, List.length_cons, List.length_nil, List.cons_append, List.nil_append, List.append_nil, List.replicate, List.set_cons_zero, List.set_cons_succ, List.getElem?_cons_zero, List.getElem?_cons_succ, Option.bind_some, Option.map_some, Option.bind_none, Option.map_none, if_true, if_false, Bool.false_eq_true, decide_true, decide_false, Nat.reduceAdd, Nat.reduceSub, Bool.not_true, Bool.not_false, sIf, sYes, sNext, sBad, tgName, tgTup, tgCons, tgNil, tupOf, seqOf, lstOf, ↓reduceIte, Nat.zero_le, Nat.reduceLeDiff, sMB, st, sn, i0, st0, s2, i1, s_minus, eq_str, hm, sFor, sItR1, len_dWs, rg, and_self, hn, lp, er]
    cases q : allR 0 L with
    | ok ps => simp only [dueD, bodyM, startD, sSeq, sIfS, sB, sNot, sNotV, sAnd, sAndT, sOrT, sOp, sVar, sC, sRet, sExpr, sSet, sAsg, sPar, sAug, sCons, sNil, sTup, sLst, sCall, sCB, fb1, ↓RL.bind_m, R.ofO_some, R.ofO_none, R.ofO, List.map_cons, List.map_nil, List.length_cons, List.length_nil, List.cons_append, List.nil_append, List.append_nil, List.replicate, List.set_cons_zero, List.set_cons_succ, List.getElem?_cons_zero, List.getElem?_cons_succ, Option.bind_some, Option.map_some, Option.bind_none, Option.map_none, if_true, if_false, Bool.false_eq_true, decide_true, decide_false, Nat.reduceAdd, Nat.reduceSub, Bool.not_true, Bool.not_false, sIf, sYes, sNext, sBad, tgName, tgTup, tgCons, tgNil, tupOf, seqOf, lstOf, ↓reduceIte, Nat.zero_le, Nat.reduceLeDiff, fin_rt]
    | error ab =>
      obtain ⟨a, b⟩ := ab
      simp only [dueD, bodyM, startD, sSeq, sIfS, sB, sNot, sNotV, sAnd, sAndT, sOrT, sOp, sVar, sC, sRet, sExpr, sSet, sAsg, sPar, sAug, sCons, sNil, sTup, sLst, sCall, sCB, fb1, ↓RL.bind_m, R.ofO_some, R.ofO_none, R.ofO, List.map_cons, List.map_nil, List.length_cons, List.length_nil, List.cons_append, List.nil_append, List.append_nil, List.replicate, List.set_cons_zero, List.set_cons_succ, List.getElem?_cons_zero, List.getElem?_cons_succ, Option.bind_some, Option.map_some, Option.bind_none, Option.map_none, if_true, if_false, Bool.false_eq_true, decide_true, decide_false, Nat.reduceAdd, Nat.reduceSub, Bool.not_true, Bool.not_false, sIf, sYes, sNext, sBad, tgName, tgTup, tgCons, tgNil, tupOf, seqOf, lstOf, ↓reduceIte, Nat.zero_le, Nat.reduceLeDiff, fin_rt]
theorem sh_err (a b : Nat) : Sh (dErr a b) 1 := by
  have hk : ∀ n, PyData.strOk (numS n) = true := fun n => by
    unfold PyData.strOk
    rw [← Array.all_toList]
    refine List.all_eq_true.mpr fun c hc => decide_eq_true ?_
    have := numL_digits n c hc
    omega
  exact Sh.tup (ShL.cons (Sh.str (by decide +kernel) 0) (ShL.cons (Sh.str (hk a) 0) (ShL.cons (Sh.str (hk b) 0) (ShL.nil 0))))
theorem page_len {x : List Nat} {l : List Pk} (h : readP x = .ok l) : (pageP l).length = x.length := by rw [page_of h]
/-- every text is read, or refused, as the law asks -/
theorem one_right {x : List Nat} (hx : Gx x) : m__law_one_right [dW x] ws = .ok (.bl true) ws := by
  have du := due_ok (ws := ws) hx
  have rp := read_packets (ws := ws) hx
  cases q : readP x with
  | ok l =>
    rw [q] at du rp
    simp only [dueD] at du
    simp only [rpR] at rp
    obtain ⟨g1, g2⟩ := good_of hx q
    have hp : (pageP l).length ≤ 90000 := by
      rw [page_len q]
      have := hx.1
      omega
    have pt := packets_text_aux (ws := ws) g1 (by omega) hp (.tup (dPs l)) (.inr rfl)
    rw [page_of q] at pt
    have hh : m__law_heard (fun ws1 => m_read_packets [dW x] ws1) ws = .ok (.lst [.tup (dPs l)]) ws := heard_ok rp
    have n1 : fIsN true ws .non .non = some (.bl false) := rfl
    have t1 : tab_list.lookup (.b "list") = some true := rfl
    have t2 : tab_tuple.lookup (.b "tuple") = some true := rfl
    have i0 : fIx ws (.lst [D.tup (dPs l)]) (.int 0) = some (.tup (dPs l)) := rfl
    simp only [m__law_one_right, g__law_one_right, N__law_one_right, bodyM, startD, sSeq, sIfS, sB, sNot, sNotV, sAnd, sAndT, sOrT, sOp, sVar, sC, sRet, sExpr, sSet, sAsg, sPar, sAug, sCons, sNil, sTup, sLst, sCall, sCB, fb1, ↓RL.bind_m, R.ofO_some, R.ofO_none, R.ofO, List.map_cons, List.map_nil, List.length_cons, List.length_nil, List.cons_append, List.nil_append, List.append_nil, List.replicate, List.set_cons_zero, List.set_cons_succ, List.getElem?_cons_zero, List.getElem?_cons_succ, Option.bind_some, Option.map_some, Option.bind_none, Option.map_none, if_true, if_false, Bool.false_eq_true, decide_true, decide_false, Nat.reduceAdd, Nat.reduceSub, Bool.not_true, Bool.not_false, sIf, sYes, sNext, sBad, tgName, tgTup, tgCons, tgNil, tupOf, seqOf, lstOf, ↓reduceIte, Nat.zero_le, Nat.reduceLeDiff, du, sAsk, hh, n1, sIsi, tyD, t1, t2, i0, pt, eq_str, fin_rt]
  | error ab =>
    obtain ⟨a, b⟩ := ab
    rw [q] at du rp
    simp only [dueD] at du
    simp only [rpR] at rp
    obtain ⟨ha, hb⟩ := readP_err hx q
    have hh : m__law_heard (fun ws1 => m_read_packets [dW x] ws1) ws = .ok (dErr a b) ws := heard_bt rp ha hb
    have n1 : fIsN true ws (dErr a b) .non = some (.bl true) := rfl
    have ee : fEqD ws (dErr a b) (dErr a b) = some (.bl true) := eq_self_D (sh_err a b) (by decide)
    simp only [m__law_one_right, g__law_one_right, N__law_one_right, bodyM, startD, sSeq, sIfS, sB, sNot, sNotV, sAnd, sAndT, sOrT, sOp, sVar, sC, sRet, sExpr, sSet, sAsg, sPar, sAug, sCons, sNil, sTup, sLst, sCall, sCB, fb1, ↓RL.bind_m, R.ofO_some, R.ofO_none, R.ofO, List.map_cons, List.map_nil, List.length_cons, List.length_nil, List.cons_append, List.nil_append, List.append_nil, List.replicate, List.set_cons_zero, List.set_cons_succ, List.getElem?_cons_zero, List.getElem?_cons_succ, Option.bind_some, Option.map_some, Option.bind_none, Option.map_none, if_true, if_false, Bool.false_eq_true, decide_true, decide_false, Nat.reduceAdd, Nat.reduceSub, Bool.not_true, Bool.not_false, sIf, sYes, sNext, sBad, tgName, tgTup, tgCons, tgNil, tupOf, seqOf, lstOf, ↓reduceIte, Nat.zero_le, Nat.reduceLeDiff, du, sAsk, hh, n1, ee, fin_rt]
end
end K87
set_option Elab.async false
set_option linter.all false
set_option maxRecDepth 100000
set_option maxHeartbeats 4000000
namespace K87
open RL PySem L2 TL
theorem cut_appG (c : Nat) : ∀ (p r : List Nat), cutC c (p ++ c :: r) = cutC c p ++ cutC c r
  | [], r => by
    rw [List.nil_append, cutC_hit]
    rfl
  | x :: p, r => by
    have ih := cut_appG c p r
    by_cases h : x = c
    · subst h
      rw [List.cons_append, cutC_hit, cutC_hit, ih]
      rfl
    · obtain ⟨q, qs, e⟩ := List.exists_cons_of_ne_nil (cutC_ne c p)
      rw [e] at ih
      rw [List.cons_append, cutC_miss h e, cutC_miss h (by rw [ih]; rfl)]
      rfl
theorem cut_joinG (c : Nat) : ∀ ps : List (List Nat), ps ≠ [] → cutC c (joinL [c] ps) = ps.flatMap (cutC c)
  | [], h => absurd rfl h
  | [a], _ => by simp [joinL]
  | a :: b :: r, _ => by
    rw [joinL_cons, List.append_assoc, List.singleton_append, cut_appG, cut_joinG c (b :: r) (by simp)]
    rfl
theorem mem_join {c x : Nat} (hx : x ≠ c) : ∀ {ps : List (List Nat)}, x ∈ joinL [c] ps → ∃ p ∈ ps, x ∈ p
  | [], h => by simp [joinL] at h
  | [a], h => ⟨a, by simp, h⟩
  | a :: b :: r, h => by
    rw [joinL_cons] at h
    rcases List.mem_append.mp h with h | h
    · rcases List.mem_append.mp h with h | h
      · exact ⟨a, by simp, h⟩
      · rw [List.mem_singleton] at h
        exact absurd h hx
    · obtain ⟨p, h1, h2⟩ := mem_join hx h
      exact ⟨p, List.mem_cons_of_mem _ h1, h2⟩
/-- a line of at most m short words -/
def Sl (m : Nat) (l : List Nat) : Prop := 10 ∉ l ∧ (cutC 32 l).length ≤ m ∧ ∀ w ∈ cutC 32 l, w.length ≤ 40
def Sz (n m : Nat) (x : List Nat) : Prop := (cutC 10 x).length ≤ n ∧ ∀ y ∈ cutC 10 x, Sl m y
theorem Sl.up {m m' : Nat} {l : List Nat} (h : Sl m l) (hm : m ≤ m') : Sl m' l := ⟨h.1, Nat.le_trans h.2.1 hm, h.2.2⟩
theorem sum_bound {k : Nat} : ∀ {l : List (List Nat)}, (∀ w ∈ l, w.length ≤ k) → (l.map List.length).sum ≤ l.length * k
  | [], _ => by simp
  | a :: r, h => by
    have h1 := h a (by simp)
    have h2 := sum_bound (l := r) fun w hw => h w (List.mem_cons_of_mem _ hw)
    simp only [List.map_cons, List.sum_cons, List.length_cons]
    rw [Nat.add_mul]
    omega
theorem Sl.len {m : Nat} {l : List Nat} (h : Sl m l) : l.length ≤ m * 41 := by
  have z := cut_sum 32 l
  have s := sum_bound h.2.2
  have h2 := h.2.1
  have : (cutC 32 l).length * 40 ≤ m * 40 := Nat.mul_le_mul_right _ h2
  omega
theorem Sz.len {n m : Nat} {x : List Nat} (h : Sz n m x) : x.length ≤ n * (m * 41 + 1) := by
  have z := cut_sum 10 x
  have s := sum_bound (k := m * 41) fun y hy => (h.2 y hy).len
  have h1 := h.1
  have : (cutC 10 x).length * (m * 41) ≤ n * (m * 41) := Nat.mul_le_mul_right _ h1
  rw [Nat.mul_add]
  omega
theorem Sz.gx {n m : Nat} {x : List Nat} (h : Sz n m x) (hn : n ≤ 20) (hm : m ≤ 40) : Gx x := by
  have := h.len
  have h2 : n * (m * 41 + 1) ≤ 20 * (40 * 41 + 1) := Nat.mul_le_mul hn (by omega)
  exact ⟨by omega, fun y hy w hw => by
    have := (h.2 y hy).2.2 w hw
    omega⟩
theorem Sz.join {n m : Nat} {ls : List (List Nat)} (hn : ls.length ≤ n) (h1 : 1 ≤ n) (hm : 1 ≤ m) (h : ∀ l ∈ ls, Sl m l) : Sz n m (joinL [10] ls) := by
  by_cases h0 : ls = []
  · subst h0
    refine ⟨by simp [joinL, cutC]; omega, fun y hy => ?_⟩
    simp [joinL, cutC] at hy
    subst hy
    exact ⟨by simp, by simp [cutC]; omega, by simp [cutC]⟩
  · rw [Sz, cut_join h0 fun l hl => (h l hl).1]
    exact ⟨hn, h⟩
/-- words put side by side -/
theorem Sl.join {m : Nat} {ps : List (List Nat)} (hm : 1 ≤ m) (hc : (ps.flatMap (cutC 32)).length ≤ m) (h : ∀ p ∈ ps, 10 ∉ p ∧ ∀ w ∈ cutC 32 p, w.length ≤ 40) : Sl m (joinL [32] ps) := by
  by_cases h0 : ps = []
  · subst h0
    exact ⟨by simp [joinL], by simp [joinL, cutC]; omega, by simp [joinL, cutC]⟩
  · refine ⟨fun hx => ?_, by rw [cut_joinG 32 ps h0]; exact hc, fun w hw => ?_⟩
    · obtain ⟨p, h1, h2⟩ := mem_join (by decide) hx
      exact (h p h1).1 h2
    · rw [cut_joinG 32 ps h0] at hw
      obtain ⟨p, h1, h2⟩ := List.mem_flatMap.mp hw
      exact (h p h1).2 w h2
theorem flat_pieces : ∀ {l : List (List Nat)}, (∀ w ∈ l, 32 ∉ w) → l.flatMap (cutC 32) = l
  | [], _ => rfl
  | a :: r, h => by
    rw [List.flatMap_cons, cut_none (h a (by simp)), flat_pieces fun w hw => h w (List.mem_cons_of_mem _ hw)]
    rfl
def WL : List (List Nat) := [[], [45], [48], [55], [58], [48, 49], [45, 49], [97], [49, 58], [48, 32, 58, 32, 45], [51, 32, 58, 32, 52, 32, 53]]
theorem wl_str : [D.str "", .str "-", .str "0", .str "7", .str ":", .str "01", .str "-1", .str "a", .str "1:", .str "0 : -", .str "3 : 4 5"] = WL.map dW := by decide +kernel
theorem wl_ok : ∀ w ∈ WL, Sl 4 w := by
  intro w hw
  simp only [WL, List.mem_cons, List.not_mem_nil, or_false] at hw
  rcases hw with rfl | rfl | rfl | rfl | rfl | rfl | rfl | rfl | rfl | rfl | rfl <;> exact ⟨by decide, by decide, by decide⟩
theorem cut_to {α : Type} (l : List α) (k : Nat) : cutG l none (some ((k : Nat) : Int)) = l.take k := by
  simp only [cutG, HT.sIx_none, HT.sIx_nat, List.drop_zero, Nat.sub_zero]
  by_cases h : k ≤ l.length
  · rw [Nat.min_eq_left h]
  · rw [Nat.min_eq_right (by omega), List.take_of_length_le (Nat.le_refl _), List.take_of_length_le (by omega)]
theorem cut_from {α : Type} (l : List α) (k : Nat) : cutG l (some ((k : Nat) : Int)) none = l.drop k := by
  simp only [cutG, HT.sIx_none, HT.sIx_nat]
  by_cases h : k ≤ l.length
  · rw [Nat.min_eq_left h, List.take_of_length_le (by rw [List.length_drop] <;> omega)]
  · rw [Nat.min_eq_right (by omega), List.drop_of_length_le (Nat.le_refl _), List.drop_of_length_le (by omega)]
    simp
theorem toInt {d : Int} (h0 : 0 ≤ d) : ∃ k : Nat, d = (k : Nat) := ⟨d.toNat, by omega⟩
section
variable {S : List Int} {p : Nat} {ws0 ws ws' : List Ce} {j j' : Int}
theorem eqI (a b : Int) : fEqS ws (.int a) (.int b) = some (.bl (decide (a = b))) := rfl
theorem split_nlM {x : List Nat} (hx : x.length ≤ 90000) : fmSplitM (dW x) [.str "\n"] ws = some (.cell ws.length, ws ++ [.lst ((cutC 10 x).map dW)]) := by
  have h1 : (("\n" : Str).length == 0) = false := by decide +kernel
  have h2 : (Sx x).length ≤ 90000 := by rw [Sx_len]; exact hx
  simp only [fmSplitM, dW, h1, h2, and_self, if_true]
  rw [nl_str, split_cut (by decide)]
  simp only [List.map_map]
  rfl
theorem cat_dWs {a b : List (List Nat)} (h : a.length + b.length ≤ 100000) : fCat ws (dWs a) (dWs b) = some (dWs (a ++ b)) := by
  simp only [fCat, dWs, lstOf, Option.bind_some, List.length_map, h, if_true, List.map_append]
theorem ixN_nat {n k : Nat} (h : k < n) : ixN n (k : Nat) = some k := by
  have h1 : (0 : Int) ≤ k := by omega
  have h2 : (k : Int) < n := by omega
  simp [ixN, h1, h2]
theorem join_nlC {ls : List (List Nat)} {n : Nat} (hn : ws.length = n) (h : (joinL [10] ls).length ≤ 90000) : fmJoin (.str "\n") [.cell n] (ws ++ [.lst (ls.map dW)]) = some (dW (joinL [10] ls), ws ++ [.lst (ls.map dW)]) := by
  have jd := join_do (ws := ws ++ [.lst (ls.map dW)]) (c := 10) (ps := ls) h
  simp only [fmJoin, seqOf, last_get hn, Option.bind_some, strs_dW, nl_str, jd]
theorem join_nlL {ls : List (List Nat)} (h : (joinL [10] ls).length ≤ 90000) : fmJoin (.str "\n") [dWs ls] ws = some (dW (joinL [10] ls), ws) := by
  have jd := join_do (ws := ws) (c := 10) (ps := ls) h
  simp only [fmJoin, dWs, seqOf, Option.bind_some, strs_dW, nl_str, jd]
theorem join_spL {l : List (List Nat)} (h : (joinL [32] l).length ≤ 90000) : fmJoin (.str " ") [dWs l] ws = some (dW (joinL [32] l), ws) := by
  have jd := join_do (ws := ws) (c := 32) (ps := l) h
  simp only [fmJoin, dWs, seqOf, Option.bind_some, strs_dW, sp_str, jd]
end
end K87
set_option Elab.async false
set_option linter.all false
set_option maxRecDepth 100000
set_option maxHeartbeats 4000000
namespace K87
open RL PySem L2 TL
theorem cut_in {c : Nat} : ∀ {l p : List Nat}, p ∈ cutC c l → c ∉ p ∧ ∀ x ∈ p, x ∈ l
  | [], p, h => by
    simp [cutC] at h
    subst h
    exact ⟨by simp, by simp⟩
  | x :: r, p, h => by
    obtain ⟨q, qs, e⟩ := List.exists_cons_of_ne_nil (cutC_ne c r)
    have ih := fun p hp => cut_in (c := c) (l := r) (p := p) hp
    by_cases hx : x = c
    · subst hx
      rw [cutC_hit] at h
      rcases List.mem_cons.mp h with h | h
      · subst h
        exact ⟨by simp, by simp⟩
      · exact ⟨(ih p h).1, fun y hy => List.mem_cons_of_mem _ ((ih p h).2 y hy)⟩
    · rw [cutC_miss hx e] at h
      rw [e] at ih
      rcases List.mem_cons.mp h with h | h
      · subst h
        have := ih q (by simp)
        refine ⟨fun hc => ?_, fun y hy => ?_⟩
        · rcases List.mem_cons.mp hc with hc | hc
          · exact hx hc.symm
          · exact this.1 hc
        · rcases List.mem_cons.mp hy with hy | hy
          · subst hy
            simp
          · exact List.mem_cons_of_mem _ (this.2 y hy)
      · have := ih p (List.mem_cons_of_mem _ h)
        exact ⟨this.1, fun y hy => List.mem_cons_of_mem _ (this.2 y hy)⟩
theorem Sl.mix {m : Nat} {y w : List Nat} {as bs : List (List Nat)} (hW : Sl m y) (ha : ∀ a ∈ as, a ∈ cutC 32 y) (hb : ∀ a ∈ bs, a ∈ cutC 32 y) (hl : as.length + bs.length ≤ m) (hw : Sl 4 w) : Sl (m + 4) (joinL [32] (as ++ [w] ++ bs)) := by
  refine Sl.join (by omega) ?_ ?_
  · rw [List.flatMap_append, List.flatMap_append, flat_pieces fun a h => (cut_in (ha a h)).1, flat_pieces fun a h => (cut_in (hb a h)).1]
    simp only [List.flatMap_cons, List.flatMap_nil, List.append_nil, List.length_append]
    have := hw.2.1
    omega
  · have key : ∀ p ∈ cutC 32 y, 10 ∉ p ∧ ∀ w ∈ cutC 32 p, w.length ≤ 40 := fun p hp => ⟨fun h => hW.1 ((cut_in hp).2 _ h), fun w hw => by
      rw [cut_none (cut_in hp).1, List.mem_singleton] at hw
      subst hw
      exact hW.2.2 _ hp⟩
    intro p hp
    rcases List.mem_append.mp hp with hp | hp
    · rcases List.mem_append.mp hp with hp | hp
      · exact key p (ha p hp)
      · rw [List.mem_singleton] at hp
        subst hp
        exact ⟨hw.1, hw.2.2⟩
    · exact key p (hb p hp)
theorem Sl.mix0 {m : Nat} {y : List Nat} {as bs : List (List Nat)} (hW : Sl m y) (ha : ∀ a ∈ as, a ∈ cutC 32 y) (hb : ∀ a ∈ bs, a ∈ cutC 32 y) (hl : as.length + bs.length ≤ m) : Sl (m + 4) (joinL [32] (as ++ bs)) := by
  refine Sl.join (by omega) ?_ ?_
  · rw [List.flatMap_append, flat_pieces fun a h => (cut_in (ha a h)).1, flat_pieces fun a h => (cut_in (hb a h)).1]
    simp only [List.length_append]
    omega
  · have key : ∀ p ∈ cutC 32 y, 10 ∉ p ∧ ∀ w ∈ cutC 32 p, w.length ≤ 40 := fun p hp => ⟨fun h => hW.1 ((cut_in hp).2 _ h), fun w hw => by
      rw [cut_none (cut_in hp).1, List.mem_singleton] at hw
      subst hw
      exact hW.2.2 _ hp⟩
    intro p hp
    rcases List.mem_append.mp hp with hp | hp
    · exact key p (ha p hp)
    · exact key p (hb p hp)
theorem Sl.add {m : Nat} {y w : List Nat} (hW : Sl m y) (hw : Sl 4 w) : Sl (m + 4) (y ++ [32] ++ w) := by
  have e : y ++ [32] ++ w = joinL [32] [y, w] := by rw [joinL_cons]; rfl
  rw [e]
  refine Sl.join (by omega) ?_ ?_
  · simp only [List.flatMap_cons, List.flatMap_nil, List.append_nil, List.length_append]
    have := hw.2.1
    have := hW.2.1
    omega
  · intro p hp
    rcases List.mem_cons.mp hp with hp | hp
    · subst hp
      exact ⟨hW.1, hW.2.2⟩
    · rw [List.mem_singleton] at hp
      subst hp
      exact ⟨hw.1, hw.2.2⟩
theorem Sz.set {n m : Nat} {x y : List Nat} {A : Nat} (h : Sz n m x) (hy : Sl (m + 4) y) : Sz (n + 1) (m + 4) (joinL [10] ((cutC 10 x).set A y)) := by
  refine Sz.join (by rw [List.length_set]; have := h.1; omega) (by omega) (by omega) fun l hl => ?_
  rcases List.mem_or_eq_of_mem_set hl with hl | hl
  · exact (h.2 l hl).up (by omega)
  · subst hl
    exact hy
theorem Sz.small {n m : Nat} {x : List Nat} (h : Sz n m x) (hn : n ≤ 21) (hm : m ≤ 44) : x.length ≤ 40000 := by
  have := h.len
  have h2 : n * (m * 41 + 1) ≤ 21 * (44 * 41 + 1) := Nat.mul_le_mul hn (by omega)
  omega
theorem Sl.small {m : Nat} {x : List Nat} (h : Sl m x) (hm : m ≤ 44) : x.length ≤ 2000 := by
  have := h.len
  have h2 : m * 41 ≤ 44 * 41 := Nat.mul_le_mul_right _ hm
  omega
theorem ints6 {d : Int} (h0 : 0 ≤ d) (h1 : d < 6) : d = 0 ∨ d = 1 ∨ d = 2 ∨ d = 3 ∨ d = 4 ∨ d = 5 := by omega
theorem lt_of_lens {α : Type} {d : Int} {l : List α} (h0 : 0 ≤ d) (h1 : d < (l.length : Int)) : ∃ A : Nat, d = (A : Nat) ∧ A < l.length := ⟨d.toNat, by omega, by omega⟩
section
variable {S : List Int} {p : Nat} {ws0 ws ws' : List Ce} {j j' : Int}
theorem bent {x : List Nat} {n m : Nat} (h : Dr S p ws0 j ws) (hz : Sz n m x) (hn : n ≤ 20) (hm : m ≤ 40) (hj : j < 90000) :
    ∃ x' ws', m__law_bent [.cell p, dW x] ws = .ok (dW x') ws' ∧ Dr S p ws0 (j + 4) ws' ∧ Sz (n + 1) (m + 4) x' := by
  have xl := hz.small (by omega) (by omega)
  have sn := split_nlM (ws := ws) (x := x) (by omega)
  have L0 := cutC_ne 10 x
  have hLn := hz.1
  have hL := hz.2
  have zset : ∀ A y, Sl (m + 4) y → Sz (n + 1) (m + 4) (joinL [10] ((cutC 10 x).set A y)) := fun A y hy => hz.set hy
  generalize cutC 10 x = L at sn L0 hLn hL zset
  have hpl : p < ws.length := by
    have := h.len
    have := h.1
    omega
  have hpne : ws.length ≠ p := by omega
  have D0 := h.app [.lst (L.map dW)]
  have wl0 := h.len
  have lpos : 0 < L.length := List.length_pos_iff.mpr L0
  obtain ⟨d1, W1, e1, D1, d10, d11⟩ := drw (n := 6) D0 (by omega) (by omega) (by omega)
  have gt : ∀ {k : Int} {W : List Ce}, Dr S p (ws0 ++ [.lst (L.map dW)]) k W → W[ws.length]? = some (.lst (L.map dW)) := fun D => by
    rw [D.at hpne, last_get (by omega)]
  have g1 := gt D1
  obtain ⟨d2, W2, e2, D2, d20, d21⟩ := drw (n := (L.length : Int)) D1 (by omega) (by omega) (by omega)
  have g2 := gt D2
  obtain ⟨A, rfl, hA⟩ := lt_of_lens d20 d21
  have hy := hL L[A] (List.getElem_mem _)
  have ix : atI (L.map dW) ((A : Nat) : Int) = some (dW L[A]) := by
    rw [atI_n, List.getElem?_map, List.getElem?_eq_getElem hA, Option.map_some]
  generalize L[A] = y at hy ix
  have yl := hy.small (by omega)
  have s2 := split_sp (ws := W2) (x := y) (by omega)
  have V0 := cutC_ne 32 y
  have vpos : 0 < (cutC 32 y).length := List.length_pos_iff.mpr V0
  have vl := hy.2.1
  have mix := fun (as bs : List (List Nat)) (w : List Nat) ha hb hl hw => Sl.mix (as := as) (bs := bs) (w := w) hy ha hb hl hw
  have mix0 := fun (as bs : List (List Nat)) ha hb hl => Sl.mix0 (as := as) (bs := bs) hy ha hb hl
  generalize cutC 32 y = V at s2 V0 vpos vl mix mix0
  obtain ⟨d3, W3, e3, D3, d30, d31⟩ := drw (n := (V.length : Int)) D2 (by omega) (by omega) (by omega)
  have g3 := gt D3
  obtain ⟨B, rfl, hB⟩ := lt_of_lens d30 d31
  obtain ⟨xw, W4, e4, D4, hw⟩ := pick (l := WL.map dW) D3 (by simp [WL]) (by simp [WL]) (by omega)
  obtain ⟨w, hw2, rfl⟩ := List.mem_map.mp hw
  have hw := wl_ok w hw2
  rw [← wl_str] at e4
  obtain ⟨ws4, rfl, D5⟩ := D4.unapp h.1
  have l5 : ws4.length = ws.length := by rw [D5.len, h.len]
  have g4 := last_get (c := .lst (L.map dW)) l5
  have D6 := D5.up (j' := j + 4) (by omega)
  have wlen := hw.small (by omega)
  have stx : isTy "str" ws (dW x) = true := rfl
  have sty : isTy "str" W2 (dW y) = true := rfl
  have st1 : ∀ ws, isTy "str" ws (.str " ") = true := fun _ => rfl
  have st2 : ∀ ws, isTy "str" ws (.str "\n") = true := fun _ => rfl
  have gl1 : gLen W1 (.cell ws.length) = some (.int (L.length : Nat)) := by simp only [gLen, seqOf, g1, Option.map_some, List.length_map]
  have gl2 : gLen W2 (.lst (V.map dW)) = some (.int (V.length : Nat)) := len_dWs V
  have i2 : fIx W2 (.cell ws.length) (.int (A : Nat)) = some (dW y) := by simp only [fIx, seqOf, g2, Option.bind_some, ix]
  have i4 : fIx (ws4 ++ [.lst (L.map dW)]) (.cell ws.length) (.int (A : Nat)) = some (dW y) := by simp only [fIx, seqOf, g4, Option.bind_some, ix]
  have ixn : ixN (L.map dW).length ((A : Nat) : Int) = some A := ixN_nat (by rw [List.length_map]; exact hA)
  have lset : ∀ z, (ws4 ++ [Ce.lst (L.map dW)]).set ws.length (.lst ((L.map dW).set A (dW z))) = ws4 ++ [.lst ((L.set A z).map dW)] := fun z => by rw [last_set l5, List.map_set]
  have adB : ∀ ws, fAdd ws (.int (B : Nat)) (.int 1) = some (.int ((B + 1 : Nat) : Int)) := fun _ => rfl
  have adA : ∀ ws, fAdd ws (.int (A : Nat)) (.int 1) = some (.int ((A + 1 : Nat) : Int)) := fun _ => rfl
  have cu : ∀ (l : List (List Nat)) (k : Nat), cutG (l.map dW) none (some ((k : Nat) : Int)) = (l.take k).map dW := fun l k => by rw [cut_to, List.map_take]
  have cf : ∀ (l : List (List Nat)) (k : Nat), cutG (l.map dW) (some ((k : Nat) : Int)) none = (l.drop k).map dW := fun l k => by rw [cut_from, List.map_drop]
  have cat : ∀ (ws : List Ce) (a b : List (List Nat)), a.length + b.length ≤ 100000 → fCat ws (.lst (a.map dW)) (.lst (b.map dW)) = some (.lst ((a ++ b).map dW)) := fun ws a b q => cat_dWs q
  have cat1 : ∀ (ws : List Ce) (a : List (List Nat)), a.length < 100000 → fCat ws (.lst (a.map dW)) (.lst [dW w]) = some (.lst ((a ++ [w]).map dW)) := fun ws a q => cat ws a [w] (by simp; omega)
  have js : ∀ (ws : List Ce) (l : List (List Nat)) (m' : Nat), Sl m' (joinL [32] l) → m' ≤ 44 → fmJoin (.str " ") [.lst (l.map dW)] ws = some (dW (joinL [32] l), ws) := fun ws l m' q q2 => join_spL (by have := q.small q2; omega)
  have endC : ∀ (z : List Nat) {ρ : List (Option D)}, RL.fin false ws (.ok (ρ, .rt (dW z)) (ws4 ++ [.lst (L.map dW)])) = .ok (dW z) ws4   := fun z _ => h.fin D6 (d' := dW z) rfl (by simp)
  have tl1 : (V.take B).length ≤ B := by
    rw [List.length_take]
    omega
  have tl2 : (V.drop (B + 1)).length = V.length - (B + 1) := by simp
  have tl3 : (V.drop B).length = V.length - B := by simp
  have mt : ∀ a ∈ V.take B, a ∈ V := fun a h => List.mem_of_mem_take h
  have md : ∀ k, ∀ a ∈ V.drop k, a ∈ V := fun k a h => List.mem_of_mem_drop h
  have fin1 : ∀ (z : List Nat) {ρ : List (Option D)}, RL.fin false ws (.ok (ρ, .rt (dW (joinL [10] (L.set A z)))) (ws4 ++ [.lst ((L.set A z).map dW)])) = .ok (dW (joinL [10] (L.set A z))) ws4 := fun z _ => h.fin D6 (d' := dW (joinL [10] (L.set A z))) rfl (by simp)
  have jn : ∀ z, Sl (m + 4) z → fmJoin (.str "\n") [.cell ws.length] (ws4 ++ [.lst ((L.set A z).map dW)]) = some (dW (joinL [10] (L.set A z)), ws4 ++ [.lst ((L.set A z).map dW)]) := fun z q => join_nlC l5 (by have := (zset A z q).small (by omega) (by omega); omega)
  rcases ints6 d10 d11 with rfl | rfl | rfl | rfl | rfl | rfl
  · have q := mix (V.take B) (V.drop (B + 1)) w mt (md _) (by omega) hw
    refine ⟨_, ws4, ?_, D6, zset A _ q⟩
    simp only [m__law_bent, g__law_bent, N__law_bent, bodyM, startD, sSeq, sIfS, sB, sNot, sNotV, sAnd, sAndT, sOrT, sOp, sVar, sC, sRet, sExpr, sSet, sAsg, sPar, sAug, sCons, sNil, sTup, sLst, sCall, sCB, fb1, ↓RL.bind_m, R.ofO_some, R.ofO_none, R.ofO, List.map_cons, List.map_nil, List.length_cons, List.length_nil, List.cons_append, List.nil_append, List.append_nil, List.replicate, List.set_cons_zero, List.set_cons_succ, List.getElem?_cons_zero, List.getElem?_cons_succ, Option.bind_some, Option.map_some, Option.bind_none, Option.map_none, if_true, if_false, Bool.false_eq_true, decide_true, decide_false, Nat.reduceAdd, Nat.reduceSub, Bool.not_true, Bool.not_false, sIf, sYes, sNext, sBad, tgName, tgTup, tgCons, tgNil, tupOf, seqOf, lstOf, ↓reduceIte, Nat.zero_le, Nat.reduceLeDiff, sMB, stx, sn, e1, gl1, e2, i2, sty, s2, dWs, gl2, e3, e4, eqI, Int.reduceEq, eq_self, sSlice, soNone, soSome, cu, cat1 _ (V.take B) (by simp; omega), adB, cf, cat _ (V.take B ++ [w]) (V.drop (B + 1)) (by simp; omega), st1, js _ _ _ q (by omega), sAsg, tgItem, g4, ixn, lset, jn _ q, st2, fin1]
  · have q := mix (V.take B) (V.drop B) w mt (md _) (by omega) hw
    refine ⟨_, ws4, ?_, D6, zset A _ q⟩
    simp only [m__law_bent, g__law_bent, N__law_bent, bodyM, startD, sSeq, sIfS, sB, sNot, sNotV, sAnd, sAndT, sOrT, sOp, sVar, sC, sRet, sExpr, sSet, sAsg, sPar, sAug, sCons, sNil, sTup, sLst, sCall, sCB, fb1, ↓RL.bind_m, R.ofO_some, R.ofO_none, R.ofO, List.map_cons, List.map_nil, List.length_cons, List.length_nil, List.cons_append, List.nil_append, List.append_nil, List.replicate, List.set_cons_zero, List.set_cons_succ, List.getElem?_cons_zero, List.getElem?_cons_succ, Option.bind_some, Option.map_some, Option.bind_none, Option.map_none, if_true, if_false, Bool.false_eq_true, decide_true, decide_false, Nat.reduceAdd, Nat.reduceSub, Bool.not_true, Bool.not_false, sIf, sYes, sNext, sBad, tgName, tgTup, tgCons, tgNil, tupOf, seqOf, lstOf, ↓reduceIte, Nat.zero_le, Nat.reduceLeDiff, sMB, stx, sn, e1, gl1, e2, i2, sty, s2, dWs, gl2, e3, e4, eqI, Int.reduceEq, eq_self, sSlice, soNone, soSome, cu, cat1 _ (V.take B) (by simp; omega), adB, cf, cat _ (V.take B ++ [w]) (V.drop B) (by simp; omega), st1, js _ _ _ q (by omega), sAsg, tgItem, g4, ixn, lset, jn _ q, st2, fin1]
  · have q := mix0 (V.take B) (V.drop (B + 1)) mt (md _) (by omega)
    refine ⟨_, ws4, ?_, D6, zset A _ q⟩
    simp only [m__law_bent, g__law_bent, N__law_bent, bodyM, startD, sSeq, sIfS, sB, sNot, sNotV, sAnd, sAndT, sOrT, sOp, sVar, sC, sRet, sExpr, sSet, sAsg, sPar, sAug, sCons, sNil, sTup, sLst, sCall, sCB, fb1, ↓RL.bind_m, R.ofO_some, R.ofO_none, R.ofO, List.map_cons, List.map_nil, List.length_cons, List.length_nil, List.cons_append, List.nil_append, List.append_nil, List.replicate, List.set_cons_zero, List.set_cons_succ, List.getElem?_cons_zero, List.getElem?_cons_succ, Option.bind_some, Option.map_some, Option.bind_none, Option.map_none, if_true, if_false, Bool.false_eq_true, decide_true, decide_false, Nat.reduceAdd, Nat.reduceSub, Bool.not_true, Bool.not_false, sIf, sYes, sNext, sBad, tgName, tgTup, tgCons, tgNil, tupOf, seqOf, lstOf, ↓reduceIte, Nat.zero_le, Nat.reduceLeDiff, sMB, stx, sn, e1, gl1, e2, i2, sty, s2, dWs, gl2, e3, e4, eqI, Int.reduceEq, eq_self, sSlice, soNone, soSome, cu, adB, cf, cat _ (V.take B) (V.drop (B + 1)) (by simp; omega), st1, js _ _ _ q (by omega), sAsg, tgItem, g4, ixn, lset, jn _ q, st2, fin1]
  · have q : Sz (n + 1) (m + 4) (joinL [10] (L.take (A + 1) ++ [w] ++ L.drop (A + 1))) := by
      refine Sz.join (by simp; omega) (by omega) (by omega) fun l hl => ?_
      rcases List.mem_append.mp hl with hl | hl
      · rcases List.mem_append.mp hl with hl | hl
        · exact (hL l (List.mem_of_mem_take hl)).up (by omega)
        · rw [List.mem_singleton] at hl
          subst hl
          exact hw.up (by omega)
      · exact (hL l (List.mem_of_mem_drop hl)).up (by omega)
    have jl := join_nlL (ws := ws4 ++ [.lst (L.map dW)]) (ls := L.take (A + 1) ++ [w] ++ L.drop (A + 1)) (by have := q.small (by omega) (by omega); omega)
    simp only [dWs] at jl
    refine ⟨_, ws4, ?_, D6, q⟩
    simp only [m__law_bent, g__law_bent, N__law_bent, bodyM, startD, sSeq, sIfS, sB, sNot, sNotV, sAnd, sAndT, sOrT, sOp, sVar, sC, sRet, sExpr, sSet, sAsg, sPar, sAug, sCons, sNil, sTup, sLst, sCall, sCB, fb1, ↓RL.bind_m, R.ofO_some, R.ofO_none, R.ofO, List.map_cons, List.map_nil, List.length_cons, List.length_nil, List.cons_append, List.nil_append, List.append_nil, List.replicate, List.set_cons_zero, List.set_cons_succ, List.getElem?_cons_zero, List.getElem?_cons_succ, Option.bind_some, Option.map_some, Option.bind_none, Option.map_none, if_true, if_false, Bool.false_eq_true, decide_true, decide_false, Nat.reduceAdd, Nat.reduceSub, Bool.not_true, Bool.not_false, sIf, sYes, sNext, sBad, tgName, tgTup, tgCons, tgNil, tupOf, seqOf, lstOf, ↓reduceIte, Nat.zero_le, Nat.reduceLeDiff, sMB, stx, sn, e1, gl1, e2, i2, sty, s2, dWs, gl2, e3, e4, eqI, Int.reduceEq, eq_self, sSlice, soNone, soSome, cu, adA, g4, cf, cat1 _ (L.take (A + 1)) (by simp; omega), cat _ (L.take (A + 1) ++ [w]) (L.drop (A + 1)) (by simp; omega), st1, jl, st2, endC]
  · have q : Sz (n + 1) (m + 4) (joinL [10] (L.take A ++ L.drop (A + 1))) := by
      refine Sz.join (by simp; omega) (by omega) (by omega) fun l hl => ?_
      rcases List.mem_append.mp hl with hl | hl
      · exact (hL l (List.mem_of_mem_take hl)).up (by omega)
      · exact (hL l (List.mem_of_mem_drop hl)).up (by omega)
    have jl := join_nlL (ws := ws4 ++ [.lst (L.map dW)]) (ls := L.take A ++ L.drop (A + 1)) (by have := q.small (by omega) (by omega); omega)
    simp only [dWs] at jl
    refine ⟨_, ws4, ?_, D6, q⟩
    simp only [m__law_bent, g__law_bent, N__law_bent, bodyM, startD, sSeq, sIfS, sB, sNot, sNotV, sAnd, sAndT, sOrT, sOp, sVar, sC, sRet, sExpr, sSet, sAsg, sPar, sAug, sCons, sNil, sTup, sLst, sCall, sCB, fb1, ↓RL.bind_m, R.ofO_some, R.ofO_none, R.ofO, List.map_cons, List.map_nil, List.length_cons, List.length_nil, List.cons_append, List.nil_append, List.append_nil, List.replicate, List.set_cons_zero, List.set_cons_succ, List.getElem?_cons_zero, List.getElem?_cons_succ, Option.bind_some, Option.map_some, Option.bind_none, Option.map_none, if_true, if_false, Bool.false_eq_true, decide_true, decide_false, Nat.reduceAdd, Nat.reduceSub, Bool.not_true, Bool.not_false, sIf, sYes, sNext, sBad, tgName, tgTup, tgCons, tgNil, tupOf, seqOf, lstOf, ↓reduceIte, Nat.zero_le, Nat.reduceLeDiff, sMB, stx, sn, e1, gl1, e2, i2, sty, s2, dWs, gl2, e3, e4, eqI, Int.reduceEq, eq_self, sSlice, soNone, soSome, cu, adA, g4, cf, cat _ (L.take A) (L.drop (A + 1)) (by simp; omega), st1, jl, st2, endC]
  · have q : Sl (m + 4) (y ++ [32] ++ w) := hy.add hw
    have ql := q.small (by omega)
    have a1 : fAddS (ws4 ++ [.lst (L.map dW)]) (dW y) (.str " ") = some (dW (y ++ [32])) := by
      rw [sp_str]
      simp only [fAddS, dW, Sx_len, app_S]
      rw [if_pos (by simp; omega)]
    have a2 : fAddS (ws4 ++ [.lst (L.map dW)]) (dW (y ++ [32])) (dW w) = some (dW (y ++ [32] ++ w)) := by
      simp only [fAddS, dW, Sx_len, app_S]
      rw [if_pos (by simp at ql ⊢; omega)]
    refine ⟨_, ws4, ?_, D6, zset A _ q⟩
    simp only [m__law_bent, g__law_bent, N__law_bent, bodyM, startD, sSeq, sIfS, sB, sNot, sNotV, sAnd, sAndT, sOrT, sOp, sVar, sC, sRet, sExpr, sSet, sAsg, sPar, sAug, sCons, sNil, sTup, sLst, sCall, sCB, fb1, ↓RL.bind_m, R.ofO_some, R.ofO_none, R.ofO, List.map_cons, List.map_nil, List.length_cons, List.length_nil, List.cons_append, List.nil_append, List.append_nil, List.replicate, List.set_cons_zero, List.set_cons_succ, List.getElem?_cons_zero, List.getElem?_cons_succ, Option.bind_some, Option.map_some, Option.bind_none, Option.map_none, if_true, if_false, Bool.false_eq_true, decide_true, decide_false, Nat.reduceAdd, Nat.reduceSub, Bool.not_true, Bool.not_false, sIf, sYes, sNext, sBad, tgName, tgTup, tgCons, tgNil, tupOf, seqOf, lstOf, ↓reduceIte, Nat.zero_le, Nat.reduceLeDiff, sMB, stx, sn, e1, gl1, e2, i2, sty, s2, dWs, gl2, e3, e4, eqI, Int.reduceEq, eq_self, i4, a1, a2, sAsg, tgItem, g4, ixn, lset, jn _ q, st2, fin1]
end
end K87
set_option Elab.async false
set_option linter.all false
set_option maxRecDepth 100000
set_option maxHeartbeats 4000000
namespace K87
open RL PySem L2 TL
/-- a packet of the law -/
def Sp (p : Pk) : Prop := p.1 < 10 ^ 40 ∧ (∀ n ∈ p.2, n < 10 ^ 40) ∧ p.2.length ≤ 6
theorem up40 {n : Nat} (h : n < 10 ^ 40) : n < 10 ^ 100 := Nat.lt_of_lt_of_le h (Nat.pow_le_pow_right (by decide) (by decide))
def wordsP (p : Pk) : List (List Nat) := numL p.1 :: [58] :: (if p.2 = [] then [[45]] else p.2.map numL)
theorem words_ne {p : Pk} : (if p.2 = [] then [[45]] else p.2.map numL) ≠ ([] : List (List Nat)) := by
  split
  · simp
  · rename_i h
    simpa using h
theorem join_words (p : Pk) : joinL [32] (wordsP p) = lineP p := by
  obtain ⟨a, r, e⟩ := List.exists_cons_of_ne_nil (words_ne (p := p))
  unfold wordsP
  rw [e, joinL_cons, joinL_cons, ← e]
  unfold lineP partsT
  by_cases h : p.2 = []
  · simp [h, joinL]
  · simp [h]
theorem num_no {c n : Nat} (h : c < 48) : c ∉ numL n := fun z => by
  have := numL_digits n c z
  omega
theorem word_of {p : Pk} {w : List Nat} (h : w ∈ wordsP p) : (∃ n, (n = p.1 ∨ n ∈ p.2) ∧ w = numL n) ∨ w = [58] ∨ w = [45] := by
  unfold wordsP at h
  rcases List.mem_cons.mp h with h | h
  · exact .inl ⟨_, .inl rfl, h⟩
  · rcases List.mem_cons.mp h with h | h
    · exact .inr (.inl h)
    · split at h
      · exact .inr (.inr (by simpa using h))
      · obtain ⟨n, hn, rfl⟩ := List.mem_map.mp h
        exact .inl ⟨n, .inr hn, rfl⟩
theorem word_no {p : Pk} {w : List Nat} {c : Nat} (hc : c = 10 ∨ c = 32) (h : w ∈ wordsP p) : c ∉ w := by
  rcases word_of h with ⟨n, _, rfl⟩ | rfl | rfl
  · exact num_no (by omega)
  · rcases hc with rfl | rfl <;> decide
  · rcases hc with rfl | rfl <;> decide
theorem line_words (p : Pk) : cutC 32 (lineP p) = wordsP p := by
  rw [← join_words]
  exact cut_join (by simp [wordsP]) fun w hw => word_no (.inr rfl) hw
theorem line_no (p : Pk) : 10 ∉ lineP p := by
  rw [← join_words]
  intro h
  obtain ⟨w, h1, h2⟩ := mem_join (by decide) h
  exact word_no (.inl rfl) h1 h2
theorem rest_nums : ∀ (ps : List Nat) (k : Nat), rest k (ps.map numL) = .ok ps
  | [], _ => rfl
  | n :: ps, k => by
    have h : isNum (numL n) := numL_isNum n
    simp only [List.map_cons, rest, h, if_true, rest_nums ps (k + 1), Except.map, numL_val]
theorem read_line (p : Pk) : readW (cutC 32 (lineP p)) = .ok p := by
  obtain ⟨t, ps⟩ := p
  rw [line_words]
  have h : isNum (numL t) := numL_isNum t
  by_cases h0 : ps = []
  · subst h0
    simp only [wordsP, readW, h, if_true, numL_val]
  · obtain ⟨a, r, rfl⟩ := List.exists_cons_of_ne_nil h0
    have ha : ¬ numL a = [45] := by
      intro z
      have := num_no (c := 45) (n := a) (by decide)
      rw [z] at this
      exact this (by simp)
    have rn := rest_nums (a :: r) 2
    rw [List.map_cons] at rn
    simp only [wordsP, readW, h, if_true, h0, if_false, List.map_cons, ha, rn, Except.map, numL_val]
theorem Sp.sl {p : Pk} (h : Sp p) : Sl 8 (lineP p) := by
  obtain ⟨h1, h2, h3⟩ := h
  refine ⟨line_no p, ?_, ?_⟩
  · rw [line_words]
    unfold wordsP
    split <;> simp
    omega
  · rw [line_words]
    intro w hw
    rcases word_of hw with ⟨n, hn, rfl⟩ | rfl | rfl
    · refine numL_len (by decide) ?_
      rcases hn with rfl | hn
      · exact h1
      · exact h2 n hn
    · decide
    · decide
theorem Sp.gp {p : Pk} (h : Sp p) : Gp p := ⟨up40 h.1, fun n hn => up40 (h.2.1 n hn), by
  have := h.sl.len
  omega⟩
theorem allR_lines : ∀ (l : List Pk) (k : Nat), allR k (l.map lineP) = .ok l
  | [], _ => rfl
  | p :: l, k => by simp only [List.map_cons, allR, read_line, allR_lines l (k + 1), Except.map]
theorem page_cut {l : List Pk} (h : l ≠ []) : cutC 10 (pageP l) = l.map lineP := by
  rw [pageP, if_neg h]
  exact cut_join (by simpa using h) fun y hy => by
    obtain ⟨p, _, rfl⟩ := List.mem_map.mp hy
    exact line_no p
theorem read_page (l : List Pk) : readP (pageP l) = .ok l := by
  by_cases h : l = []
  · subst h
    rfl
  · unfold readP
    rw [page_cut h]
    obtain ⟨p, r, rfl⟩ := List.exists_cons_of_ne_nil h
    have h1 : ¬ (cutC 32 (((p :: r).map lineP).headD [])).headD [] = [45] := by
      rw [List.map_cons, List.headD_cons, line_words]
      show ¬ numL p.1 = [45]
      intro z
      have := num_no (c := 45) (n := p.1) (by decide)
      rw [z] at this
      exact this (by simp)
    rw [readL, if_neg h1]
    exact allR_lines _ _
theorem page_sz {l : List Pk} (hl : l.length ≤ 8) (h : ∀ p ∈ l, Sp p) : Sz 8 8 (pageP l) := by
  by_cases h0 : l = []
  · subst h0
    exact ⟨by decide, fun y hy => by
      have : y = [45] := by simpa [pageP, cutC] using hy
      subst this
      exact ⟨by decide, by decide, by decide⟩⟩
  · rw [Sz, page_cut h0, List.length_map]
    refine ⟨hl, fun y hy => ?_⟩
    obtain ⟨p, hp, rfl⟩ := List.mem_map.mp hy
    exact (h p hp).sl
theorem sh_nats : ∀ l : List Nat, ShL (nats l) 0
  | [] => ShL.nil 0
  | n :: l => ShL.cons (Sh.int _ 0) (sh_nats l)
section
variable {S : List Int} {p : Nat} {ws0 ws ws' : List Ce} {j j' : Int}
theorem ne_of_eq {x y : D} {b : Bool} (h : fEqD ws x y = some (.bl b)) : fNeD ws x y = some (.bl (!b)) := by
  simp only [fEqD, fNeD, Option.bind_eq_some_iff] at h ⊢
  obtain ⟨u, h1, v, h2, h3⟩ := h
  refine ⟨u, h1, v, h2, ?_⟩
  split at h3
  · rename_i h4
    cases h3
    rw [if_pos h4]
  · cases h3
theorem ne_nil_nats {l : List Nat} : fNeD ws (.lst (nats l)) (.lst []) = some (.bl (decide (l ≠ []))) := by
  have := ne_of_eq (eq_nil_lst (ws := ws) (sh_nats l) (by decide))
  rw [this]
  cases l <;> rfl
theorem pk_eq {q : Pk} : m_Packet___eq__ [oPk q.1 q.2, oPk q.1 q.2] ws = .ok (.bl true) ws := by
  obtain ⟨t, ps⟩ := q
  have i0 : insOf ws "Packet" (oPk t ps) = some ((["tick", "parts"] : List Str), [nat t, .tup (nats ps)]) := rfl
  have k0 : okI ["tick", "parts"] "tick" 0 = true := by decide
  have k1 : okI ["tick", "parts"] "parts" 1 = true := by decide
  have tp : tab_Packet.lookup (.c "Packet") = some true := rfl
  have ty : tyD ws (oPk t ps) = some (.c "Packet") := rfl
  have e1 : fEqS ws (nat t) (nat t) = some (.bl true) := by simp [nat, eqI]
  have e2 : fEqD ws (.tup (nats ps)) (.tup (nats ps)) = some (.bl true) := eq_self_D (Sh.tup (sh_nats ps)) (by decide)
  simp only [m_Packet___eq__, g_Packet___eq__, N_Packet___eq__, bodyM, startD, sSeq, sIfS, sB, sNot, sNotV, sAnd, sAndT, sOrT, sOp, sVar, sC, sRet, sExpr, sSet, sAsg, sPar, sAug, sCons, sNil, sTup, sLst, sCall, sCB, fb1, ↓RL.bind_m, R.ofO_some, R.ofO_none, R.ofO, List.map_cons, List.map_nil, List.length_cons, List.length_nil, List.cons_append, List.nil_append, List.append_nil, List.replicate, List.set_cons_zero, List.set_cons_succ, List.getElem?_cons_zero, List.getElem?_cons_succ, Option.bind_some, Option.map_some, Option.bind_none, Option.map_none, if_true, if_false, Bool.false_eq_true, decide_true, decide_false, Nat.reduceAdd, Nat.reduceSub, Bool.not_true, Bool.not_false, sIf, sYes, sNext, sBad, tgName, tgTup, tgCons, tgNil, tupOf, seqOf, lstOf, ↓reduceIte, Nat.zero_le, Nat.reduceLeDiff, sIsi, ty, tp, sAttr, i0, k0, k1, e1, e2, fin_rt]
theorem nats_py : ∀ l : List Nat, (toPys0 (nats l)).isSome = true
  | [] => rfl
  | n :: l => by
    have := nats_py l
    obtain ⟨q, e⟩ := Option.isSome_iff_exists.mp this
    show (toPys0 (.int (n : Nat) :: nats l)).isSome = true
    simp [toPys0, toPy0, e]
theorem q_pk {q : Pk} : qOne "Packet" (qIns "Packet" "Packet" m_Packet___eq__) (oPk q.1 q.2) (oPk q.1 q.2) ws = some true := by
  have e := pk_eq (ws := ws) (q := q)
  obtain ⟨t, ps⟩ := q
  have i0 : (insOf ws "Packet" (oPk t ps)).isSome = true := rfl
  have py : (toPys0 [nat t, .tup (nats ps)]).isSome = true := by
    obtain ⟨q, e⟩ := Option.isSome_iff_exists.mp (nats_py ps)
    simp [toPys0, toPy0, e, nat]
  have qi : qIns "Packet" "Packet" m_Packet___eq__ (oPk t ps) (oPk t ps) ws = some true := by
    simp only at e
    simp only [qIns, i0, and_self, if_true, e]
  simp only [oPk, dPk] at qi
  simp only [oPk, dPk, qOne, py, and_self, if_true, qi, Option.bind_some]
  simp
theorem q_all : ∀ l : List Pk, qAll (qOne "Packet" (qIns "Packet" "Packet" m_Packet___eq__)) ws (dPs l) (dPs l) = some true
  | [] => rfl
  | q :: l => by
    show qAll _ ws (oPk q.1 q.2 :: dPs l) (oPk q.1 q.2 :: dPs l) = _
    simp only [qAll, q_pk, q_all l, Option.bind_some, Option.map_some, Bool.and_self]
theorem ne_pks (l : List Pk) : fQ (qNot' (qTup (qOne "Packet" (qIns "Packet" "Packet" m_Packet___eq__)))) ws (.tup (dPs l)) (.tup (dPs l)) = some (.bl false) := by
  simp only [fQ, qNot', qTup, q_all, Option.map_some, Bool.not_true]
theorem pow_nat {k : Nat} (hk : k ≤ 1000) : fPow ws (.int 10) (.int (k : Nat)) = some (nat (10 ^ k)) := by
  rw [fPow_ok (k := k) rfl (by decide) (by omega), nat]
  congr 2
theorem p9 : fPow ws (.int 10) (.int 9) = some (nat (10 ^ 9)) := pow_nat (k := 9) (by decide)
theorem p30 : fPow ws (.int 10) (.int 30) = some (nat (10 ^ 30)) := pow_nat (k := 30) (by decide)
theorem p39 : fPow ws (.int 10) (.int 39) = some (nat (10 ^ 39)) := pow_nat (k := 39) (by decide)
abbrev elP : Se := sCall m__law_pick (sCons (sVar 0) (sCons (sLst (sCons (sC (.int 0)) (sCons (sC (.int 1)) (sCons (sCall m__law_draw (sCons (sVar 0) (sCons (sC (.int 100)) sNil))) (sCons (sOp fPow (sC (.int 10)) (sC (.int 30))) (sCons (sOp fPow (sC (.int 10)) (sC (.int 39))) sNil)))))) sNil))
theorem el_one {v1 v2 v3 v4 v5 : Option D} (h : Dr S p ws0 j ws) (hj : j < 90000) : ∃ n ws', elP [some (.cell p), v1, v2, v3, v4, v5] ws = .ok (nat n) ws' ∧ Dr S p ws0 (j + 2) ws' ∧ n < 10 ^ 40 := by
  obtain ⟨d, W1, e1, D1, d0, d1⟩ := drw (n := 100) h (by omega) (by omega) (by omega)
  obtain ⟨k, rfl⟩ := toInt d0
  obtain ⟨x, W2, e2, D2, hx⟩ := pick (l := [.int 0, .int 1, .int (k : Nat), nat (10 ^ 30), nat (10 ^ 39)]) D1 (by simp) (by simp) (by omega)
  have : ∃ n, x = nat n ∧ n < 10 ^ 40 := by
    simp only [List.mem_cons, List.not_mem_nil, or_false] at hx
    rcases hx with rfl | rfl | rfl | rfl | rfl
    · exact ⟨0, rfl, by decide +kernel⟩
    · exact ⟨1, rfl, by decide +kernel⟩
    · exact ⟨k, rfl, Nat.lt_of_lt_of_le (show k < 100 by omega) (by decide +kernel)⟩
    · exact ⟨_, rfl, by decide +kernel⟩
    · exact ⟨_, rfl, by decide +kernel⟩
  obtain ⟨n, rfl, hn⟩ := this
  refine ⟨n, W2, ?_, D2.up (by omega), hn⟩
  simp only [elP, bodyM, startD, sSeq, sIfS, sB, sNot, sNotV, sAnd, sAndT, sOrT, sOp, sVar, sC, sRet, sExpr, sSet, sAsg, sPar, sAug, sCons, sNil, sTup, sLst, sCall, sCB, fb1, ↓RL.bind_m, R.ofO_some, R.ofO_none, R.ofO, List.map_cons, List.map_nil, List.length_cons, List.length_nil, List.cons_append, List.nil_append, List.append_nil, List.replicate, List.set_cons_zero, List.set_cons_succ, List.getElem?_cons_zero, List.getElem?_cons_succ, Option.bind_some, Option.map_some, Option.bind_none, Option.map_none, if_true, if_false, Bool.false_eq_true, decide_true, decide_false, Nat.reduceAdd, Nat.reduceSub, Bool.not_true, Bool.not_false, sIf, sYes, sNext, sBad, tgName, tgTup, tgCons, tgNil, tupOf, seqOf, lstOf, ↓reduceIte, Nat.zero_le, Nat.reduceLeDiff, e1, p30, p39, e2]
theorem lc_pick {v1 v2 v3 v4 v5 : Option D} {all : List D} : ∀ (L : List D) (acc : List D) (j : Int) (ws : List Ce), Dr S p ws0 j ws → j + 2 * (L.length : Int) < 90000 → acc.length + L.length < 90000 →
    ∃ ps ws', loopLc all none (tgName 3) sYes elP [some (.cell p), v1, v2, v3, v4, v5] L acc ws = .ok (acc ++ nats ps) ws' ∧ Dr S p ws0 (j + 2 * (L.length : Int)) ws' ∧ ps.length = L.length ∧ ∀ n ∈ ps, n < 10 ^ 40
  | [], acc, j, ws, h, _, _ => ⟨[], ws, by simp [loopLc, SrcOk, nats], by simpa using h, rfl, fun n hn => nomatch hn⟩
  | d :: L, acc, j, ws, h, hj, hn => by
    rw [List.length_cons] at hj hn
    obtain ⟨n, W1, e1, D1, n1⟩ := el_one (v1 := v1) (v2 := v2) (v3 := some d) (v4 := v4) (v5 := v5) h (by omega)
    obtain ⟨ps, W2, e2, D2, h1, h2⟩ := lc_pick (v1 := v1) (v2 := v2) (v3 := v3) (v4 := v4) (v5 := v5) (all := all) L (acc ++ [nat n]) (j + 2) W1 D1 (by omega) (by rw [List.length_append, List.length_singleton]; omega)
    have hn' : acc.length < 100000 := by omega
    refine ⟨n :: ps, W2, ?_, D2.up (by rw [List.length_cons]; omega), by simp [h1], fun m hm => ?_⟩
    · have e3 : nats (n :: ps) = [nat n] ++ nats ps := rfl
      rw [e3, ← List.append_assoc, ← e2]
      simp only [loopLc, SrcOk, if_true, tgName, List.set_cons_zero, List.set_cons_succ, nox, R.bind_ok, sYes, e1, hn']
    · rcases List.mem_cons.mp hm with rfl | hm
      · exact n1
      · exact h2 m hm
theorem lc_parts5 {v0 v1 v2 v3 v4 : Option D} {all : List D} : ∀ (ps : List Nat) (acc : List D), (∀ n ∈ ps, n < 10 ^ 100) → acc.length + ps.length ≤ 100000 →
    ∀ v5, loopLc all none (tgName 5) sYes (sCB (fb1 gStr) (sCons (sVar 5) sNil)) [v0, v1, v2, v3, v4, v5] (nats ps) acc ws = .ok (acc ++ (ps.map numL).map dW) ws
  | [], acc, _, _, _ => by simp [loopLc, SrcOk, nats]
  | n :: ps, acc, h, hn, v5 => by
    have g := gstr_nat (ws := ws) (h n (by simp))
    have hn' : acc.length < 100000 := by
      simp at hn
      omega
    have ih := lc_parts5 (v0 := v0) (v1 := v1) (v2 := v2) (v3 := v3) (v4 := v4) (all := all) ps (acc ++ [dW (numL n)]) (fun m hm => h m (List.mem_cons_of_mem _ hm)) (by simp at hn ⊢; omega)
    show loopLc all none (tgName 5) sYes _ _ (nat n :: nats ps) acc ws = _
    simp only [loopLc, SrcOk, if_true, tgName, List.set_cons_zero, List.set_cons_succ, nox, R.bind_ok, sYes, sCB, sCons, sVar, List.getElem?_cons_zero, List.getElem?_cons_succ, sNil, fb1, g, Option.map_some, hn', ih]
    simp
theorem below_nat (n m : Nat) : below n (nat m) = true := rfl
theorem below_tnats (n : Nat) (l : List Nat) : below n (.tup (nats l)) = true := by simp only [below, below_nats]
theorem packet_one (h : Dr S p ws0 j ws) (hj : j < 80000) : ∃ pk ws', m__law_packet [.cell p] ws = .ok (.tup [oPk pk.1 pk.2, dW (lineP pk)]) ws' ∧ Dr S p ws0 (j + 15) ws' ∧ Sp pk := by
  obtain ⟨d, W1, e1, D1, d0, d1⟩ := drw (n := 1000) h (by omega) (by omega) (by omega)
  obtain ⟨kt, rfl⟩ := toInt d0
  obtain ⟨x, W2, e2, D2, hx⟩ := pick (l := [.int 0, .int 1, .int 2, .int (kt : Nat), nat (10 ^ 9), nat (10 ^ 30)]) D1 (by simp) (by simp) (by omega)
  have : ∃ n, x = nat n ∧ n < 10 ^ 40 := by
    simp only [List.mem_cons, List.not_mem_nil, or_false] at hx
    rcases hx with rfl | rfl | rfl | rfl | rfl | rfl
    · exact ⟨0, rfl, by decide +kernel⟩
    · exact ⟨1, rfl, by decide +kernel⟩
    · exact ⟨2, rfl, by decide +kernel⟩
    · exact ⟨kt, rfl, Nat.lt_of_lt_of_le (show kt < 1000 by omega) (by decide +kernel)⟩
    · exact ⟨_, rfl, by decide +kernel⟩
    · exact ⟨_, rfl, by decide +kernel⟩
  obtain ⟨t, rfl, ht⟩ := this
  obtain ⟨x, W3, e3, D3, hx⟩ := pick (l := [.int 0, .int 1, .int 2, .int 2, .int 6]) D2 (by simp) (by simp) (by omega)
  have : ∃ k : Nat, x = .int (k : Nat) ∧ k ≤ 6 := by
    simp only [List.mem_cons, List.not_mem_nil, or_false] at hx
    rcases hx with rfl | rfl | rfl | rfl | rfl
    · exact ⟨0, rfl, by decide⟩
    · exact ⟨1, rfl, by decide⟩
    · exact ⟨2, rfl, by decide⟩
    · exact ⟨2, rfl, by decide⟩
    · exact ⟨6, rfl, by decide⟩
  obtain ⟨k, rfl, hk⟩ := this
  have il : (intsD 0 k).length = k := by simp [intsD]
  obtain ⟨ps, W4, e4, D4, h1, h2⟩ := lc_pick (v1 := some (nat t)) (v2 := none) (v3 := none) (v4 := none) (v5 := none) (all := intsD 0 k) (intsD 0 k) [] (j + 1 + 1 + 1) W3 D3 (by omega) (by simp; omega)
  rw [List.nil_append] at e4
  rw [il] at h1 D4
  have sp : Sp (t, ps) := ⟨ht, h2, by simp only; omega⟩
  have gp := sp.gp
  have lp := sp.sl.small (by decide)
  have rg : (-1000000 : Int) ≤ (k : Int) ∧ (k : Int) ≤ 1000000 := by omega
  have hn : ((k : Int)).toNat = k := by omega
  refine ⟨(t, ps), W4, ?_, D4.up (by omega), sp⟩
  have gs : gStr W4 (nat t) = some (dW (numL t)) := gstr_nat (up40 ht)
  have hl : (lineP (t, ps)).length = (numL t).length + 3 + (partsT ps).length := by
    simp [lineP]
    omega
  have a1 : fAddS W4 (dW (numL t)) (.str " : ") = some (dW (numL t ++ [32, 58, 32])) := by
    rw [colon_str]
    simp only [fAddS, dW, Sx_len, app_S]
    rw [if_pos (by simp; omega)]
  have a2 : fAddS W4 (dW (numL t ++ [32, 58, 32])) (dW (partsT ps)) = some (dW (lineP (t, ps))) := by
    simp only [fAddS, dW, Sx_len, app_S]
    rw [if_pos (by simp; omega)]
    rfl
  have st : isTy "str" W4 (.str " ") = true := rfl
  have nn := ne_nil_nats (ws := W4) (l := ps)
  have gt : gTuple W4 (.lst (nats ps)) = some (.tup (nats ps)) := rfl
  have mk := packet_mk (ws := W4) (below_nat W4.length t) (below_tnats W4.length ps)
  have lc5 := lc_parts5 (ws := W4) (v0 := some (.cell p)) (v1 := some (nat t)) (v2 := some (.lst (nats ps))) (v3 := none) (v4 := none) (all := nats ps) ps [] (fun n hn => up40 (h2 n hn)) (by simp; omega) none
  rw [List.nil_append] at lc5
  simp only [elP] at e4
  by_cases h0 : ps = []
  · subst h0
    have pe : partsT [] = [45] := rfl
    rw [pe] at a2
    simp only [m__law_packet, g__law_packet, N__law_packet, bodyM, startD, sSeq, sIfS, sB, sNot, sNotV, sAnd, sAndT, sOrT, sOp, sVar, sC, sRet, sExpr, sSet, sAsg, sPar, sAug, sCons, sNil, sTup, sLst, sCall, sCB, fb1, ↓RL.bind_m, R.ofO_some, R.ofO_none, R.ofO, List.map_cons, List.map_nil, List.length_cons, List.length_nil, List.cons_append, List.nil_append, List.append_nil, List.replicate, List.set_cons_zero, List.set_cons_succ, List.getElem?_cons_zero, List.getElem?_cons_succ, Option.bind_some, Option.map_some, Option.bind_none, Option.map_none, if_true, if_false, Bool.false_eq_true, decide_true, decide_false, Nat.reduceAdd, Nat.reduceSub, Bool.not_true, Bool.not_false, sIf, sYes, sNext, sBad, tgName, tgTup, tgCons, tgNil, tupOf, seqOf, lstOf, ↓reduceIte, Nat.zero_le, Nat.reduceLeDiff, e1, p9, p30, e2, sLc, sLcG, sItR1, e3, rg, and_self, hn, wipeD, e4, fzL, gs, a1, nn, ne_eq, not_true_eq_false, s_minus, a2, sMk, gt, mk]
    exact h.fin0 D4
  · have pe : partsT ps = joinL [32] (ps.map numL) := by simp [partsT, h0]
    have js := join_spL (ws := W4) (l := ps.map numL) (by rw [← pe]; omega)
    rw [pe] at a2
    simp only [dWs] at js
    simp only [m__law_packet, g__law_packet, N__law_packet, bodyM, startD, sSeq, sIfS, sB, sNot, sNotV, sAnd, sAndT, sOrT, sOp, sVar, sC, sRet, sExpr, sSet, sAsg, sPar, sAug, sCons, sNil, sTup, sLst, sCall, sCB, fb1, ↓RL.bind_m, R.ofO_some, R.ofO_none, R.ofO, List.map_cons, List.map_nil, List.length_cons, List.length_nil, List.cons_append, List.nil_append, List.append_nil, List.replicate, List.set_cons_zero, List.set_cons_succ, List.getElem?_cons_zero, List.getElem?_cons_succ, Option.bind_some, Option.map_some, Option.bind_none, Option.map_none, if_true, if_false, Bool.false_eq_true, decide_true, decide_false, Nat.reduceAdd, Nat.reduceSub, Bool.not_true, Bool.not_false, sIf, sYes, sNext, sBad, tgName, tgTup, tgCons, tgNil, tupOf, seqOf, lstOf, ↓reduceIte, Nat.zero_le, Nat.reduceLeDiff, e1, p9, p30, e2, sLc, sLcG, sItR1, e3, rg, and_self, hn, wipeD, e4, fzL, gs, a1, nn, h0, ne_eq, not_false_eq_true, sMB, st, sItL, itOf, lc5, js, a2, sMk, gt, mk]
    exact h.fin0 D4
end
end K87
set_option Elab.async false
set_option linter.all false
set_option maxRecDepth 100000
set_option maxHeartbeats 4000000
namespace K87
open RL PySem L2 TL
/-- is the value a whole number from nought on -/
def nOf : D → Bool
  | .int i => decide (0 ≤ i)
  | _ => false
/-- is the value a packet of whole numbers -/
def pOf : D → Bool
  | .ins _ _ [a, .tup l] => nOf a && l.all nOf
  | _ => false
def sca : D → Prop
  | .non => True
  | .bl _ => True
  | .int _ => True
  | .str _ => True
  | _ => False
section
variable {ws : List Ce}
theorem from_n {a : D} (h : sca a) : m_is_from_nought [a] ws = .ok (.bl (nOf a)) ws := by
  have ti : tab_int.lookup (.b "int") = some true := rfl
  have tb : tab_bool.lookup (.b "int") = some false := rfl
  have ti1 : tab_int.lookup (.b "bool") = some true := rfl
  have tb1 : tab_bool.lookup (.b "bool") = some true := rfl
  have ti2 : tab_int.lookup (.b "NoneType") = some false := rfl
  have ti3 : tab_int.lookup (.b "str") = some false := rfl
  cases a with
  | non => simp only [m_is_from_nought, g_is_from_nought, N_is_from_nought, bodyM, startD, sSeq, sIfS, sB, sNot, sNotV, sAnd, sAndT, sOrT, sOp, sVar, sC, sRet, sExpr, sSet, sAsg, sPar, sAug, sCons, sNil, sTup, sLst, sCall, sCB, fb1, ↓RL.bind_m, R.ofO_some, R.ofO_none, R.ofO, List.map_cons, List.map_nil, List.length_cons, List.length_nil, List.cons_append, List.nil_append, List.append_nil, List.replicate, List.set_cons_zero, List.set_cons_succ, List.getElem?_cons_zero, List.getElem?_cons_succ, Option.bind_some, Option.map_some, Option.bind_none, Option.map_none, if_true, if_false, Bool.false_eq_true, decide_true, decide_false, Nat.reduceAdd, Nat.reduceSub, Bool.not_true, Bool.not_false, sIf, sYes, sNext, sBad, tgName, tgTup, tgCons, tgNil, tupOf, seqOf, lstOf, ↓reduceIte, Nat.zero_le, Nat.reduceLeDiff, sIsi, tyD, ti2, fin_rt, nOf]
  | bl b => simp only [m_is_from_nought, g_is_from_nought, N_is_from_nought, bodyM, startD, sSeq, sIfS, sB, sNot, sNotV, sAnd, sAndT, sOrT, sOp, sVar, sC, sRet, sExpr, sSet, sAsg, sPar, sAug, sCons, sNil, sTup, sLst, sCall, sCB, fb1, ↓RL.bind_m, R.ofO_some, R.ofO_none, R.ofO, List.map_cons, List.map_nil, List.length_cons, List.length_nil, List.cons_append, List.nil_append, List.append_nil, List.replicate, List.set_cons_zero, List.set_cons_succ, List.getElem?_cons_zero, List.getElem?_cons_succ, Option.bind_some, Option.map_some, Option.bind_none, Option.map_none, if_true, if_false, Bool.false_eq_true, decide_true, decide_false, Nat.reduceAdd, Nat.reduceSub, Bool.not_true, Bool.not_false, sIf, sYes, sNext, sBad, tgName, tgTup, tgCons, tgNil, tupOf, seqOf, lstOf, ↓reduceIte, Nat.zero_le, Nat.reduceLeDiff, sIsi, tyD, ti1, tb1, fin_rt, nOf]
  | int i =>
    by_cases h0 : 0 ≤ i
    · simp only [m_is_from_nought, g_is_from_nought, N_is_from_nought, bodyM, startD, sSeq, sIfS, sB, sNot, sNotV, sAnd, sAndT, sOrT, sOp, sVar, sC, sRet, sExpr, sSet, sAsg, sPar, sAug, sCons, sNil, sTup, sLst, sCall, sCB, fb1, ↓RL.bind_m, R.ofO_some, R.ofO_none, R.ofO, List.map_cons, List.map_nil, List.length_cons, List.length_nil, List.cons_append, List.nil_append, List.append_nil, List.replicate, List.set_cons_zero, List.set_cons_succ, List.getElem?_cons_zero, List.getElem?_cons_succ, Option.bind_some, Option.map_some, Option.bind_none, Option.map_none, if_true, if_false, Bool.false_eq_true, decide_true, decide_false, Nat.reduceAdd, Nat.reduceSub, Bool.not_true, Bool.not_false, sIf, sYes, sNext, sBad, tgName, tgTup, tgCons, tgNil, tupOf, seqOf, lstOf, ↓reduceIte, Nat.zero_le, Nat.reduceLeDiff, sIsi, tyD, ti, tb, fGe, fI, h0, fin_rt, nOf]
    · simp only [m_is_from_nought, g_is_from_nought, N_is_from_nought, bodyM, startD, sSeq, sIfS, sB, sNot, sNotV, sAnd, sAndT, sOrT, sOp, sVar, sC, sRet, sExpr, sSet, sAsg, sPar, sAug, sCons, sNil, sTup, sLst, sCall, sCB, fb1, ↓RL.bind_m, R.ofO_some, R.ofO_none, R.ofO, List.map_cons, List.map_nil, List.length_cons, List.length_nil, List.cons_append, List.nil_append, List.append_nil, List.replicate, List.set_cons_zero, List.set_cons_succ, List.getElem?_cons_zero, List.getElem?_cons_succ, Option.bind_some, Option.map_some, Option.bind_none, Option.map_none, if_true, if_false, Bool.false_eq_true, decide_true, decide_false, Nat.reduceAdd, Nat.reduceSub, Bool.not_true, Bool.not_false, sIf, sYes, sNext, sBad, tgName, tgTup, tgCons, tgNil, tupOf, seqOf, lstOf, ↓reduceIte, Nat.zero_le, Nat.reduceLeDiff, sIsi, tyD, ti, tb, fGe, fI, h0, fin_rt, nOf]
  | str s => simp only [m_is_from_nought, g_is_from_nought, N_is_from_nought, bodyM, startD, sSeq, sIfS, sB, sNot, sNotV, sAnd, sAndT, sOrT, sOp, sVar, sC, sRet, sExpr, sSet, sAsg, sPar, sAug, sCons, sNil, sTup, sLst, sCall, sCB, fb1, ↓RL.bind_m, R.ofO_some, R.ofO_none, R.ofO, List.map_cons, List.map_nil, List.length_cons, List.length_nil, List.cons_append, List.nil_append, List.append_nil, List.replicate, List.set_cons_zero, List.set_cons_succ, List.getElem?_cons_zero, List.getElem?_cons_succ, Option.bind_some, Option.map_some, Option.bind_none, Option.map_none, if_true, if_false, Bool.false_eq_true, decide_true, decide_false, Nat.reduceAdd, Nat.reduceSub, Bool.not_true, Bool.not_false, sIf, sYes, sNext, sBad, tgName, tgTup, tgCons, tgNil, tupOf, seqOf, lstOf, ↓reduceIte, Nat.zero_le, Nat.reduceLeDiff, sIsi, tyD, ti3, fin_rt, nOf]
  | _ => exact h.elim
theorem lc_bls {all : List D} {t : Tg} {el : Se} {ρ : List (Option D)} {ds : List D} {b : D → Bool} (hl : ds.length ≤ 100000) (h : ∀ d ∈ ds, ∃ ρ1, t d ρ ws = .ok ρ1 ws ∧ el ρ1 ws = .ok (.bl (b d)) ws) : ∃ l, loopLc all none t sYes el ρ ds [] ws = .ok l ws ∧ gAll ws (.lst l) = some (.bl (ds.all b)) := by
  have z := lc_map (src := none) (t := t) (el := el) (ρ := ρ) (ws := ws) (all := all) (f := fun d => .bl (b d)) trivial ds [] (by simpa using hl) h
  refine ⟨_, z, ?_⟩
  have e : ds.map (fun d => D.bl (b d)) = (ds.map b).map .bl := by rw [List.map_map]; rfl
  rw [List.nil_append, e]
  simp only [gAll, lstOf, Option.bind_some, bls_map, Option.map_some]
  congr 2
  simp [List.all_map]
theorem is_pk2 {a b : D} (ha : sca a) (hb : b = .non ∨ (∃ l, b = .lst l) ∨ ∃ l, b = .tup l ∧ l.length ≤ 100000 ∧ ∀ x ∈ l, sca x) : m_is_packet [dPk a b] ws = .ok (.bl (pOf (dPk a b))) ws := by
  have i0 : insOf ws "Packet" (dPk a b) = some ((["tick", "parts"] : List Str), [a, b]) := rfl
  have k0 : okI ["tick", "parts"] "tick" 0 = true := by decide
  have k1 : okI ["tick", "parts"] "parts" 1 = true := by decide
  have tp : tab_Packet.lookup (.c "Packet") = some true := rfl
  have tt : tab_tuple.lookup (.b "tuple") = some true := rfl
  have tt1 : tab_tuple.lookup (.b "NoneType") = some false := rfl
  have tt2 : tab_tuple.lookup (.b "list") = some false := rfl
  have ty : tyD ws (dPk a b) = some (.c "Packet") := rfl
  have fa := from_n (ws := ws) ha
  cases hn : nOf a with
  | false =>
    rw [hn] at fa
    have e : pOf (dPk a b) = false := by
      rcases hb with rfl | ⟨l, rfl⟩ | ⟨l, rfl, _⟩
      · rfl
      · rfl
      · simp only [pOf, dPk, hn, Bool.false_and]
    simp only [m_is_packet, g_is_packet, N_is_packet, bodyM, startD, sSeq, sIfS, sB, sNot, sNotV, sAnd, sAndT, sOrT, sOp, sVar, sC, sRet, sExpr, sSet, sAsg, sPar, sAug, sCons, sNil, sTup, sLst, sCall, sCB, fb1, ↓RL.bind_m, R.ofO_some, R.ofO_none, R.ofO, List.map_cons, List.map_nil, List.length_cons, List.length_nil, List.cons_append, List.nil_append, List.append_nil, List.replicate, List.set_cons_zero, List.set_cons_succ, List.getElem?_cons_zero, List.getElem?_cons_succ, Option.bind_some, Option.map_some, Option.bind_none, Option.map_none, if_true, if_false, Bool.false_eq_true, decide_true, decide_false, Nat.reduceAdd, Nat.reduceSub, Bool.not_true, Bool.not_false, sIf, sYes, sNext, sBad, tgName, tgTup, tgCons, tgNil, tupOf, seqOf, lstOf, ↓reduceIte, Nat.zero_le, Nat.reduceLeDiff, sIsi, ty, tp, sAttr, i0, k0, k1, fa, fin_rt, e]
  | true =>
    rw [hn] at fa
    rcases hb with rfl | ⟨l, rfl⟩ | ⟨l, rfl, h1, h2⟩
    · have ty2 : tyD ws D.non = some (.b "NoneType") := rfl
      simp only [m_is_packet, g_is_packet, N_is_packet, bodyM, startD, sSeq, sIfS, sB, sNot, sNotV, sAnd, sAndT, sOrT, sOp, sVar, sC, sRet, sExpr, sSet, sAsg, sPar, sAug, sCons, sNil, sTup, sLst, sCall, sCB, fb1, ↓RL.bind_m, R.ofO_some, R.ofO_none, R.ofO, List.map_cons, List.map_nil, List.length_cons, List.length_nil, List.cons_append, List.nil_append, List.append_nil, List.replicate, List.set_cons_zero, List.set_cons_succ, List.getElem?_cons_zero, List.getElem?_cons_succ, Option.bind_some, Option.map_some, Option.bind_none, Option.map_none, if_true, if_false, Bool.false_eq_true, decide_true, decide_false, Nat.reduceAdd, Nat.reduceSub, Bool.not_true, Bool.not_false, sIf, sYes, sNext, sBad, tgName, tgTup, tgCons, tgNil, tupOf, seqOf, lstOf, ↓reduceIte, Nat.zero_le, Nat.reduceLeDiff, sIsi, ty, tp, sAttr, i0, k0, k1, fa, ty2, tt1, fin_rt]
      rfl
    · have ty2 : tyD ws (.lst l) = some (.b "list") := rfl
      simp only [m_is_packet, g_is_packet, N_is_packet, bodyM, startD, sSeq, sIfS, sB, sNot, sNotV, sAnd, sAndT, sOrT, sOp, sVar, sC, sRet, sExpr, sSet, sAsg, sPar, sAug, sCons, sNil, sTup, sLst, sCall, sCB, fb1, ↓RL.bind_m, R.ofO_some, R.ofO_none, R.ofO, List.map_cons, List.map_nil, List.length_cons, List.length_nil, List.cons_append, List.nil_append, List.append_nil, List.replicate, List.set_cons_zero, List.set_cons_succ, List.getElem?_cons_zero, List.getElem?_cons_succ, Option.bind_some, Option.map_some, Option.bind_none, Option.map_none, if_true, if_false, Bool.false_eq_true, decide_true, decide_false, Nat.reduceAdd, Nat.reduceSub, Bool.not_true, Bool.not_false, sIf, sYes, sNext, sBad, tgName, tgTup, tgCons, tgNil, tupOf, seqOf, lstOf, ↓reduceIte, Nat.zero_le, Nat.reduceLeDiff, sIsi, ty, tp, sAttr, i0, k0, k1, fa, ty2, tt2, fin_rt]
      rfl
    · have ty2 : tyD ws (.tup l) = some (.b "tuple") := rfl
      have e : pOf (dPk a (.tup l)) = l.all nOf := by simp only [pOf, dPk, hn, Bool.true_and]
      obtain ⟨bl, z, g⟩ := lc_bls (ws := ws) (all := l) (t := tgName 1) (el := sCall m_is_from_nought (sCons (sVar 1) sNil)) (ρ := [some (dPk a (.tup l)), none]) (ds := l) (b := nOf) h1 (by
        intro d hd
        refine ⟨_, rfl, ?_⟩
        have := from_n (ws := ws) (h2 d hd)
        simp only [bodyM, startD, sSeq, sIfS, sB, sNot, sNotV, sAnd, sAndT, sOrT, sOp, sVar, sC, sRet, sExpr, sSet, sAsg, sPar, sAug, sCons, sNil, sTup, sLst, sCall, sCB, fb1, ↓RL.bind_m, R.ofO_some, R.ofO_none, R.ofO, List.map_cons, List.map_nil, List.length_cons, List.length_nil, List.cons_append, List.nil_append, List.append_nil, List.replicate, List.set_cons_zero, List.set_cons_succ, List.getElem?_cons_zero, List.getElem?_cons_succ, Option.bind_some, Option.map_some, Option.bind_none, Option.map_none, if_true, if_false, Bool.false_eq_true, decide_true, decide_false, Nat.reduceAdd, Nat.reduceSub, Bool.not_true, Bool.not_false, sIf, sYes, sNext, sBad, tgName, tgTup, tgCons, tgNil, tupOf, seqOf, lstOf, ↓reduceIte, Nat.zero_le, Nat.reduceLeDiff, this])
      simp only [m_is_packet, g_is_packet, N_is_packet, bodyM, startD, sSeq, sIfS, sB, sNot, sNotV, sAnd, sAndT, sOrT, sOp, sVar, sC, sRet, sExpr, sSet, sAsg, sPar, sAug, sCons, sNil, sTup, sLst, sCall, sCB, fb1, ↓RL.bind_m, R.ofO_some, R.ofO_none, R.ofO, List.map_cons, List.map_nil, List.length_cons, List.length_nil, List.cons_append, List.nil_append, List.append_nil, List.replicate, List.set_cons_zero, List.set_cons_succ, List.getElem?_cons_zero, List.getElem?_cons_succ, Option.bind_some, Option.map_some, Option.bind_none, Option.map_none, if_true, if_false, Bool.false_eq_true, decide_true, decide_false, Nat.reduceAdd, Nat.reduceSub, Bool.not_true, Bool.not_false, sIf, sYes, sNext, sBad, tgName, tgTup, tgCons, tgNil, tupOf, seqOf, lstOf, ↓reduceIte, Nat.zero_le, Nat.reduceLeDiff, sIsi, ty, tp, sAttr, i0, k0, k1, fa, ty2, tt, sLc, sLcG, sItT, wipeD, z, fzL, g, fin_rt, e]
theorem is_no {d : D} {t : Tn} (h1 : tyD ws d = some t) (h2 : tab_Packet.lookup t = some false) : m_is_packet [d] ws = .ok (.bl false) ws := by
  simp only [m_is_packet, g_is_packet, N_is_packet, bodyM, startD, sSeq, sIfS, sB, sNot, sNotV, sAnd, sAndT, sOrT, sOp, sVar, sC, sRet, sExpr, sSet, sAsg, sPar, sAug, sCons, sNil, sTup, sLst, sCall, sCB, fb1, ↓RL.bind_m, R.ofO_some, R.ofO_none, R.ofO, List.map_cons, List.map_nil, List.length_cons, List.length_nil, List.cons_append, List.nil_append, List.append_nil, List.replicate, List.set_cons_zero, List.set_cons_succ, List.getElem?_cons_zero, List.getElem?_cons_succ, Option.bind_some, Option.map_some, Option.bind_none, Option.map_none, if_true, if_false, Bool.false_eq_true, decide_true, decide_false, Nat.reduceAdd, Nat.reduceSub, Bool.not_true, Bool.not_false, sIf, sYes, sNext, sBad, tgName, tgTup, tgCons, tgNil, tupOf, seqOf, lstOf, ↓reduceIte, Nat.zero_le, Nat.reduceLeDiff, sIsi, h1, h2, fin_rt]
abbrev exS : Ex := ⟨"BadStream", ["part"], [.str "packets"]⟩
theorem text_no {d : D} {t : Tn} (h1 : tyD ws d = some t) (h2 : tabT_list_tuple.lookup t = some false) : m_packets_text [d] ws = .ex exS ws := by
  simp only [m_packets_text, g_packets_text, N_packets_text, bodyM, startD, sSeq, sIfS, sB, sNot, sNotV, sAnd, sAndT, sOrT, sOp, sVar, sC, sRet, sExpr, sSet, sAsg, sPar, sAug, sCons, sNil, sTup, sLst, sCall, sCB, fb1, ↓RL.bind_m, R.ofO_some, R.ofO_none, R.ofO, List.map_cons, List.map_nil, List.length_cons, List.length_nil, List.cons_append, List.nil_append, List.append_nil, List.replicate, List.set_cons_zero, List.set_cons_succ, List.getElem?_cons_zero, List.getElem?_cons_succ, Option.bind_some, Option.map_some, Option.bind_none, Option.map_none, if_true, if_false, Bool.false_eq_true, decide_true, decide_false, Nat.reduceAdd, Nat.reduceSub, Bool.not_true, Bool.not_false, sIf, sYes, sNext, sBad, tgName, tgTup, tgCons, tgNil, tupOf, seqOf, lstOf, ↓reduceIte, Nat.zero_le, Nat.reduceLeDiff, sIsi, h1, h2, sRaise, and_self, R.bind_ex, List.reverse_cons, List.reverse_nil, Nat.reduceLeDiff]
  exact fin_exL rfl
theorem text_bad {d : D} {l : List D} (b : D → Bool) (hd : d = .lst l ∨ d = .tup l) (hl : l.length ≤ 1000) (h : ∀ x ∈ l, m_is_packet [x] ws = .ok (.bl (b x)) ws) (hb : l.all b = false) : m_packets_text [d] ws = .ex exS ws := by
  have t1 : tabT_list_tuple.lookup (.b "list") = some true := rfl
  have t2 : tabT_list_tuple.lookup (.b "tuple") = some true := rfl
  obtain ⟨bl, z, g⟩ := lc_bls (ws := ws) (all := l) (t := tgName 1) (el := sCall m_is_packet (sCons (sVar 1) sNil)) (ρ := [some d, none]) (ds := l) (b := b) (by omega) (by
    intro x hx
    refine ⟨_, rfl, ?_⟩
    have := h x hx
    simp only [bodyM, startD, sSeq, sIfS, sB, sNot, sNotV, sAnd, sAndT, sOrT, sOp, sVar, sC, sRet, sExpr, sSet, sAsg, sPar, sAug, sCons, sNil, sTup, sLst, sCall, sCB, fb1, ↓RL.bind_m, R.ofO_some, R.ofO_none, R.ofO, List.map_cons, List.map_nil, List.length_cons, List.length_nil, List.cons_append, List.nil_append, List.append_nil, List.replicate, List.set_cons_zero, List.set_cons_succ, List.getElem?_cons_zero, List.getElem?_cons_succ, Option.bind_some, Option.map_some, Option.bind_none, Option.map_none, if_true, if_false, Bool.false_eq_true, decide_true, decide_false, Nat.reduceAdd, Nat.reduceSub, Bool.not_true, Bool.not_false, sIf, sYes, sNext, sBad, tgName, tgTup, tgCons, tgNil, tupOf, seqOf, lstOf, ↓reduceIte, Nat.zero_le, Nat.reduceLeDiff, this])
  rw [hb] at g
  rcases hd with rfl | rfl
  · simp only [m_packets_text, g_packets_text, N_packets_text, bodyM, startD, sSeq, sIfS, sB, sNot, sNotV, sAnd, sAndT, sOrT, sOp, sVar, sC, sRet, sExpr, sSet, sAsg, sPar, sAug, sCons, sNil, sTup, sLst, sCall, sCB, fb1, ↓RL.bind_m, R.ofO_some, R.ofO_none, R.ofO, List.map_cons, List.map_nil, List.length_cons, List.length_nil, List.cons_append, List.nil_append, List.append_nil, List.replicate, List.set_cons_zero, List.set_cons_succ, List.getElem?_cons_zero, List.getElem?_cons_succ, Option.bind_some, Option.map_some, Option.bind_none, Option.map_none, if_true, if_false, Bool.false_eq_true, decide_true, decide_false, Nat.reduceAdd, Nat.reduceSub, Bool.not_true, Bool.not_false, sIf, sYes, sNext, sBad, tgName, tgTup, tgCons, tgNil, tupOf, seqOf, lstOf, ↓reduceIte, Nat.zero_le, Nat.reduceLeDiff, sIsi, tyD, t1, sLc, sLcG, sItQ, itOf2, itOf, wipeD, z, fzL, g, sRaise, and_self, R.bind_ex, List.reverse_cons, List.reverse_nil, Nat.reduceLeDiff]
    exact fin_exL rfl
  · simp only [m_packets_text, g_packets_text, N_packets_text, bodyM, startD, sSeq, sIfS, sB, sNot, sNotV, sAnd, sAndT, sOrT, sOp, sVar, sC, sRet, sExpr, sSet, sAsg, sPar, sAug, sCons, sNil, sTup, sLst, sCall, sCB, fb1, ↓RL.bind_m, R.ofO_some, R.ofO_none, R.ofO, List.map_cons, List.map_nil, List.length_cons, List.length_nil, List.cons_append, List.nil_append, List.append_nil, List.replicate, List.set_cons_zero, List.set_cons_succ, List.getElem?_cons_zero, List.getElem?_cons_succ, Option.bind_some, Option.map_some, Option.bind_none, Option.map_none, if_true, if_false, Bool.false_eq_true, decide_true, decide_false, Nat.reduceAdd, Nat.reduceSub, Bool.not_true, Bool.not_false, sIf, sYes, sNext, sBad, tgName, tgTup, tgCons, tgNil, tupOf, seqOf, lstOf, ↓reduceIte, Nat.zero_le, Nat.reduceLeDiff, sIsi, tyD, t2, sLc, sLcG, sItQ, itOf2, itOf, wipeD, z, fzL, g, sRaise, and_self, R.bind_ex, List.reverse_cons, List.reverse_nil, Nat.reduceLeDiff]
    exact fin_exL rfl
theorem text_one {d x : D} (hd : d = .lst [x] ∨ d = .tup [x]) (h : m_is_packet [x] ws = .ok (.bl false) ws) : m_packets_text [d] ws = .ex exS ws :=
  text_bad (fun _ => false) hd (by simp) (fun y hy => by rw [List.mem_singleton] at hy; subst hy; exact h) (by simp)
theorem read_no {d : D} {t : Tn} (h1 : tyD ws d = some t) (h2 : tab_str.lookup t = some false) : m_read_packets [d] ws = .ex (bt 0 0) ws := by
  have lo : m_lines_of [d] ws = .ex (bt 0 0) ws := by
    simp only [m_lines_of, g_lines_of, N_lines_of, bodyM, startD, sSeq, sIfS, sB, sNot, sNotV, sAnd, sAndT, sOrT, sOp, sVar, sC, sRet, sExpr, sSet, sAsg, sPar, sAug, sCons, sNil, sTup, sLst, sCall, sCB, fb1, ↓RL.bind_m, R.ofO_some, R.ofO_none, R.ofO, List.map_cons, List.map_nil, List.length_cons, List.length_nil, List.cons_append, List.nil_append, List.append_nil, List.replicate, List.set_cons_zero, List.set_cons_succ, List.getElem?_cons_zero, List.getElem?_cons_succ, Option.bind_some, Option.map_some, Option.bind_none, Option.map_none, if_true, if_false, Bool.false_eq_true, decide_true, decide_false, Nat.reduceAdd, Nat.reduceSub, Bool.not_true, Bool.not_false, sIf, sYes, sNext, sBad, tgName, tgTup, tgCons, tgNil, tupOf, seqOf, lstOf, ↓reduceIte, Nat.zero_le, Nat.reduceLeDiff, sIsi, h1, h2, sRaise, and_self, R.bind_ex, List.reverse_cons, List.reverse_nil, Nat.reduceLeDiff, end_bt]
  simp only [m_read_packets, g_read_packets, N_read_packets, bodyM, startD, sSeq, sIfS, sB, sNot, sNotV, sAnd, sAndT, sOrT, sOp, sVar, sC, sRet, sExpr, sSet, sAsg, sPar, sAug, sCons, sNil, sTup, sLst, sCall, sCB, fb1, ↓RL.bind_m, R.ofO_some, R.ofO_none, R.ofO, List.map_cons, List.map_nil, List.length_cons, List.length_nil, List.cons_append, List.nil_append, List.append_nil, List.replicate, List.set_cons_zero, List.set_cons_succ, List.getElem?_cons_zero, List.getElem?_cons_succ, Option.bind_some, Option.map_some, Option.bind_none, Option.map_none, if_true, if_false, Bool.false_eq_true, decide_true, decide_false, Nat.reduceAdd, Nat.reduceSub, Bool.not_true, Bool.not_false, sIf, sYes, sNext, sBad, tgName, tgTup, tgCons, tgNil, tupOf, seqOf, lstOf, ↓reduceIte, Nat.zero_le, Nat.reduceLeDiff, lo, R.bind_ex]
  exact fin_exL rfl
def oddL (l : List Pk) : List D := [.non, .int 0, .str "-", dW (pageP l), .dct [] [], .lst [.non], .tup [.str "0 : -"], .bl true, dPk (.int 0) (.tup []), .lst (dPs l ++ [.int 0]), .lst [dPk (.int 0) (.lst [.int 1])], .lst [dPk (.int (-1)) (.tup [])],
  .lst [dPk (.bl true) (.tup [])], .lst [dPk (.int 0) (.tup [.bl true])], .lst [dPk (.int 0) (.tup [.int 1, .int (-1)])], .lst [dPk .non (.tup [.int 1])], .lst [dPk (.int 0) .non], .lst [dPk (.str "0") (.tup [])]]
theorem text_odd {l : List Pk} (hl : l.length ≤ 8) (h : ∀ p ∈ l, Sp p) : ∀ d ∈ oddL l, m_packets_text [d] ws = .ex exS ws := by
  have bad : ∀ a b, sca a → (b = .non ∨ (∃ l, b = .lst l) ∨ ∃ l, b = .tup l ∧ l.length ≤ 100000 ∧ ∀ x ∈ l, sca x) → pOf (dPk a b) = false → m_packets_text [.lst [dPk a b]] ws = .ex exS ws := fun a b ha hb e => text_one (.inl rfl) (by rw [← e]; exact is_pk2 ha hb)
  have nob : ∀ x ∈ ([] : List D), sca x := fun x hx => nomatch hx
  intro d hd
  simp only [oddL, List.mem_cons, List.not_mem_nil, or_false] at hd
  rcases hd with rfl | rfl | rfl | rfl | rfl | rfl | rfl | rfl | rfl | rfl | rfl | rfl | rfl | rfl | rfl | rfl | rfl | rfl
  · exact text_no rfl rfl
  · exact text_no rfl rfl
  · exact text_no rfl rfl
  · exact text_no rfl rfl
  · exact text_no rfl rfl
  · exact text_one (.inl rfl) (is_no rfl rfl)
  · exact text_one (.inr rfl) (is_no rfl rfl)
  · exact text_no rfl rfl
  · exact text_no rfl rfl
  · refine text_bad (fun x => match x with
      | .int _ => false
      | _ => true) (.inl rfl) (by simp [dPs]; omega) (fun x hx => ?_) (by simp)
    rcases List.mem_append.mp hx with hx | hx
    · obtain ⟨p, hp, rfl⟩ := List.mem_map.mp hx
      have := (h p hp).2.2
      exact is_pk (by omega)
    · rw [List.mem_singleton] at hx
      subst hx
      exact is_no rfl rfl
  · exact bad _ _ trivial (.inr (.inl ⟨_, rfl⟩)) rfl
  · exact bad _ _ trivial (.inr (.inr ⟨_, rfl, by simp, nob⟩)) rfl
  · exact bad _ _ trivial (.inr (.inr ⟨_, rfl, by simp, nob⟩)) rfl
  · exact bad _ _ trivial (.inr (.inr ⟨_, rfl, by simp, fun x hx => by rw [List.mem_singleton] at hx; subst hx; trivial⟩)) rfl
  · exact bad _ _ trivial (.inr (.inr ⟨_, rfl, by simp, fun x hx => by
      rcases List.mem_cons.mp hx with rfl | hx
      · trivial
      · rw [List.mem_singleton] at hx; subst hx; trivial⟩)) rfl
  · exact bad _ _ trivial (.inr (.inr ⟨_, rfl, by simp, fun x hx => by rw [List.mem_singleton] at hx; subst hx; trivial⟩)) rfl
  · exact bad _ _ trivial (.inl rfl) rfl
  · exact bad _ _ trivial (.inr (.inr ⟨_, rfl, by simp, nob⟩)) rfl
def oddR : List D := [.non, .int 0, .bl true, .tup [], .lst [.str "-"], .dct [] [], dPk (.int 0) (.tup [])]
theorem read_odd : ∀ d ∈ oddR, m_read_packets [d] ws = .ex (bt 0 0) ws := by
  intro d hd
  simp only [oddR, List.mem_cons, List.not_mem_nil, or_false] at hd
  rcases hd with rfl | rfl | rfl | rfl | rfl | rfl | rfl <;> exact read_no rfl rfl
end
end K87
set_option Elab.async false
set_option linter.all false
set_option maxRecDepth 100000
set_option maxHeartbeats 4000000
namespace K87
open RL PySem L2 TL
def pairD (q : Pk) : D := .tup [oPk q.1 q.2, dW (lineP q)]
def pairsD (l : List Pk) : List D := l.map pairD
section
variable {S : List Int} {p : Nat} {ws0 ws ws' : List Ce} {j j' : Int} {u0 u2 u3 u4 u5 u6 u7 u8 u9 u10 u11 u12 : Option D}
theorem lc_pairs {all : List D} : ∀ (L : List D) (acc : List D) (j : Int) (ws : List Ce), Dr S p ws0 j ws → j + 15 * (L.length : Int) < 80000 → acc.length + L.length < 90000 →
    ∃ l ws', loopLc all none (tgName 4) sYes (sCall m__law_packet (sCons (sVar 1) sNil)) [u0, some (.cell p), u2, u3, u4, u5, u6, u7, u8, u9, u10, u11, u12] L acc ws = .ok (acc ++ pairsD l) ws' ∧ Dr S p ws0 (j + 15 * (L.length : Int)) ws' ∧ l.length = L.length ∧ ∀ q ∈ l, Sp q
  | [], acc, j, ws, h, _, _ => ⟨[], ws, by simp [loopLc, SrcOk, pairsD], by simpa using h, rfl, fun n hn => nomatch hn⟩
  | d :: L, acc, j, ws, h, hj, hn => by
    rw [List.length_cons] at hj hn
    obtain ⟨q, W1, e1, D1, n1⟩ := packet_one h (by omega)
    obtain ⟨l, W2, e2, D2, h1, h2⟩ := lc_pairs (all := all) L (acc ++ [pairD q]) (j + 15) W1 D1 (by omega) (by rw [List.length_append, List.length_singleton]; omega)
    have hn' : acc.length < 100000 := by omega
    refine ⟨q :: l, W2, ?_, D2.up (by rw [List.length_cons]; omega), by simp [h1], fun m hm => ?_⟩
    · have e3 : pairsD (q :: l) = [pairD q] ++ pairsD l := rfl
      rw [e3, ← List.append_assoc, ← e2]
      simp only [loopLc, SrcOk, if_true, tgName, List.set_cons_zero, List.set_cons_succ, nox, R.bind_ok, sYes, sCall, sCons, sVar, List.getElem?_cons_zero, List.getElem?_cons_succ, sNil, e1, hn', pairD]
    · rcases List.mem_cons.mp hm with rfl | hm
      · exact n1
      · exact h2 m hm
theorem lc_fst {all : List D} {l : List Pk} (hl : l.length ≤ 1000) : loopLc all none (tgTup 2 (tgCons (tgName 7) (tgCons (tgName 8) tgNil))) sYes (sVar 7) [u0, u2, u3, u4, u5, u6, u7, none, none, u8, u9, u10, u11] (pairsD l) [] ws = .ok (dPs l) ws := by
  have z := lc_map (src := none) (t := tgTup 2 (tgCons (tgName 7) (tgCons (tgName 8) tgNil))) (el := sVar 7) (ρ := [u0, u2, u3, u4, u5, u6, u7, none, none, u8, u9, u10, u11]) (ws := ws) (all := all) (f := fun d => match d with
    | .tup [a, b] => a
    | d => d) trivial (pairsD l) [] (by simp [pairsD]; omega) (by
    intro d hd
    obtain ⟨q, _, rfl⟩ := List.mem_map.mp hd
    exact ⟨[u0, u2, u3, u4, u5, u6, u7, some (oPk q.1 q.2), some (dW (lineP q)), u8, u9, u10, u11], rfl, rfl⟩)
  rw [z, List.nil_append, pairsD, List.map_map]
  rfl
theorem lc_snd {all : List D} {l : List Pk} (hl : l.length ≤ 1000) : loopLc all none (tgTup 2 (tgCons (tgName 7) (tgCons (tgName 8) tgNil))) sYes (sVar 8) [u0, u2, u3, u4, u5, u6, u7, none, none, u8, u9, u10, u11] (pairsD l) [] ws = .ok ((l.map lineP).map dW) ws := by
  have z := lc_map (src := none) (t := tgTup 2 (tgCons (tgName 7) (tgCons (tgName 8) tgNil))) (el := sVar 8) (ρ := [u0, u2, u3, u4, u5, u6, u7, none, none, u8, u9, u10, u11]) (ws := ws) (all := all) (f := fun d => match d with
    | .tup [a, b] => b
    | d => d) trivial (pairsD l) [] (by simp [pairsD]; omega) (by
    intro d hd
    obtain ⟨q, _, rfl⟩ := List.mem_map.mp hd
    exact ⟨[u0, u2, u3, u4, u5, u6, u7, some (oPk q.1 q.2), some (dW (lineP q)), u8, u9, u10, u11], rfl, rfl⟩)
  rw [z, List.nil_append, pairsD, List.map_map, List.map_map]
  rfl
/-- two texts that are otherwise -/
theorem lap0 {x : List Nat} (h : Dr S p ws0 j ws) (hj : j < 80000) (hx : Sz 8 8 x) : ∃ x9 ws', b_law_0 [u0, some (.cell p), u2, u3, u4, u5, some (dW x), u7, u8, u9, u10, u11, u12] ws = .ok ([u0, some (.cell p), u2, u3, u4, u5, some (dW x), u7, u8, some (dW x9), u10, u11, u12], .nx) ws' ∧ Dr S p ws0 (j + 8) ws' := by
  obtain ⟨x1, W1, e1, D1, s1⟩ := bent h hx (by omega) (by omega) (by omega)
  obtain ⟨x2, W2, e2, D2, s2⟩ := bent D1 s1 (by omega) (by omega) (by omega)
  have r1 := one_right (ws := W1) (s1.gx (by omega) (by omega))
  have r2 := one_right (ws := W2) (s2.gx (by omega) (by omega))
  refine ⟨x1, W2, ?_, D2.up (by omega)⟩
  simp only [b_law_0, bodyM, startD, sSeq, sIfS, sB, sNot, sNotV, sAnd, sAndT, sOrT, sOp, sVar, sC, sRet, sExpr, sSet, sAsg, sPar, sAug, sCons, sNil, sTup, sLst, sCall, sCB, fb1, ↓RL.bind_m, R.ofO_some, R.ofO_none, R.ofO, List.map_cons, List.map_nil, List.length_cons, List.length_nil, List.cons_append, List.nil_append, List.append_nil, List.replicate, List.set_cons_zero, List.set_cons_succ, List.getElem?_cons_zero, List.getElem?_cons_succ, Option.bind_some, Option.map_some, Option.bind_none, Option.map_none, if_true, if_false, Bool.false_eq_true, decide_true, decide_false, Nat.reduceAdd, Nat.reduceSub, Bool.not_true, Bool.not_false, sIf, sYes, sNext, sBad, tgName, tgTup, tgCons, tgNil, tupOf, seqOf, lstOf, ↓reduceIte, Nat.zero_le, Nat.reduceLeDiff, e1, r1, e2, r2]
theorem loop0 {x : List Nat} (h : Dr S p ws0 j ws) (hj : j < 70000) (hx : Sz 8 8 x) : ∃ x4 x9 ws', loopFor (intsD 0 3) none (tgName 4) b_law_0 (intsD 0 3) [u0, some (.cell p), u2, u3, u4, u5, some (dW x), u7, u8, u9, u10, u11, u12] ws = .ok ([u0, some (.cell p), u2, u3, x4, u5, some (dW x), u7, u8, x9, u10, u11, u12], .nx) ws' ∧ Dr S p ws0 (j + 24) ws' := by
  obtain ⟨ρ', v, z, x4, x9, rfl, P⟩ := for_inv (t := tgName 4) (body := b_law_0) (all := intsD 0 3)
    (fun ds ρ w => ∃ (x4 x9 : Option D), ρ = [u0, some (.cell p), u2, u3, x4, u5, some (dW x), u7, u8, x9, u10, u11, u12] ∧ Dr S p ws0 (j + 8 * (3 - (ds.length : Int))) w)
    (intsD 0 3) [u0, some (.cell p), u2, u3, u4, u5, some (dW x), u7, u8, u9, u10, u11, u12] ws
    ⟨u4, u9, rfl, h.up (by rw [intsD_len]; omega)⟩ (by
      rintro d r ρ w ⟨x4, x9, rfl, P⟩
      rw [List.length_cons] at P
      obtain ⟨y9, w', e, P'⟩ := lap0 (u0 := u0) (u2 := u2) (u3 := u3) (u4 := some d) (u5 := u5) (u7 := u7) (u8 := u8) (u9 := x9) (u10 := u10) (u11 := u11) (u12 := u12) P (by omega) hx
      exact ⟨_, w, _, w', rfl, e, some d, some (dW y9), rfl, P'.up (by omega)⟩)
  exact ⟨x4, x9, v, z, P.up (by simp)⟩
theorem seq_nx {a b : Ss} {ρ ρ1 : List (Option D)} {ws1 : List Ce} {r : R (List (Option D) × Fl)} (h : a ρ ws = .ok (ρ1, .nx) ws1) (h2 : b ρ1 ws1 = r) : sSeq a b ρ ws = r := by
  simp only [sSeq, h, R.bind_ok]
  exact h2
theorem sh_stream : Sh (.tup [.str "stream", .str "packets"]) 1 := Sh.tup (ShL.cons (Sh.str (by decide +kernel) 0) (ShL.cons (Sh.str (by decide +kernel) 0) (ShL.nil 0)))
theorem nil_nats : (.tup [] : D) = .tup (nats []) := rfl
def oddA (l : List Pk) : List D := [.non, .int 0, .str "-", dW (pageP l), .dct [] [], .lst [.non], .tup [.str "0 : -"], .bl true, dPk (.int 0) (.tup []), .lst (dPs l ++ [.int 0]), .lst [dPk (.int 0) (.lst [.int 1])], .lst [dPk (.int (-1)) (.tup [])]]
def oddB : List D := [.lst [dPk (.bl true) (.tup [])], .lst [dPk (.int 0) (.tup [.bl true])], .lst [dPk (.int 0) (.tup [.int 1, .int (-1)])], .lst [dPk .non (.tup [.int 1])], .lst [dPk (.int 0) .non], .lst [dPk (.str "0") (.tup [])]]
theorem mk_b {a b : D} (ha : ∀ n, below n a = true) (hb : ∀ n, below n b = true) : mkR false "Packet" m_Packet___init__ [a, b] ws = .ok (dPk a b) ws := packet_mk (ha _) (hb _)
theorem err00 : dErr 0 0 = .tup [.str "text", .str "0", .str "0"] := by simp only [dErr, num01.1]
theorem ne_nil_pairs {l : List Pk} : fEqNil true ws (.lst (pairsD l)) (.lst []) = some (.bl (decide (l ≠ []))) := by
  cases l <;> rfl
theorem lap1 (h : Dr S p ws0 j ws) (hj : j < 60000) : ∃ x3 x4 x5 x6 x9 x10 x11 ws', b_law_1 [u0, some (.cell p), u2, u3, u4, u5, u6, u7, u8, u9, u10, u11, u12] ws = .ok ([u0, some (.cell p), u2, x3, x4, x5, x6, u7, u8, x9, x10, x11, u12], .nx) ws' ∧ Dr S p ws0 (j + 150) ws' := by
  obtain ⟨d, W1, e1, D1, d0, d1⟩ := drw (n := 9) h (by omega) (by omega) (by omega)
  obtain ⟨k, rfl⟩ := toInt d0
  have il : (intsD 0 k).length = k := by simp [intsD]
  obtain ⟨l, W2, e2, D2, h1, h2⟩ := lc_pairs (u0 := u0) (u2 := u2) (u3 := u3) (u4 := none) (u5 := u5) (u6 := u6) (u7 := u7) (u8 := u8) (u9 := u9) (u10 := u10) (u11 := u11) (u12 := u12) (all := intsD 0 k) (intsD 0 k) [] (j + 1) W1 D1 (by omega) (by simp; omega)
  rw [List.nil_append] at e2
  rw [il] at h1 D2
  have hl : l.length ≤ 8 := by omega
  have rg : (-1000000 : Int) ≤ (k : Int) ∧ (k : Int) ≤ 1000000 := by omega
  have hn : ((k : Int)).toNat = k := by omega
  have r3 : (-1000000 : Int) ≤ 3 ∧ (3 : Int) ≤ 1000000 := by decide
  have sz := page_sz hl h2
  have gp : ∀ q ∈ l, Gp q := fun q hq => (h2 q hq).gp
  have pl := sz.small (by decide) (by decide)
  have pt1 := packets_text_aux (ws := W2) gp (by omega) (by omega) (.lst (dPs l)) (.inl rfl)
  have pt2 := packets_text_aux (ws := W2) gp (by omega) (by omega) (.tup (dPs l)) (.inr rfl)
  have gx := sz.gx (by omega) (by omega)
  have rp := read_packets (ws := W2) gx
  rw [read_page] at rp
  simp only [rpR] at rp
  have onr := one_right (ws := W2) gx
  have lf := fun {a b c d e f g h i j k : Option D} => lc_fst (ws := W2) (l := l) (all := pairsD l) (u0 := a) (u2 := b) (u3 := c) (u4 := d) (u5 := e) (u6 := f) (u7 := g) (u8 := h) (u9 := i) (u10 := j) (u11 := k) (by omega)
  have ls := fun {a b c d e f g h i j k : Option D} => lc_snd (ws := W2) (l := l) (all := pairsD l) (u0 := a) (u2 := b) (u3 := c) (u4 := d) (u5 := e) (u6 := f) (u7 := g) (u8 := h) (u9 := i) (u10 := j) (u11 := k) (by omega)
  have gt : gTuple W2 (.lst (dPs l)) = some (.tup (dPs l)) := rfl
  have nn := ne_nil_pairs (ws := W2) (l := l)
  have nk := ne_pks (ws := W2) l
  have st : isTy "str" W2 (.str "\n") = true := rfl
  have hpg : (sIf (sB (sOp (fEqNil true) (sVar 3) (sLst sNil))) (sMB "str" fmJoin (sC (.str "\n")) (sCons (sLc [7, 8] (sItL (sVar 3)) (tgTup 2 (tgCons (tgName 7) (tgCons (tgName 8) tgNil))) sYes (sVar 8)) sNil)) (sC (.str "-"))) [u0, some (.cell p), u2, some (.lst (pairsD l)), u4, u5, u6, u7, u8, u9, u10, u11, u12] W2 = .ok (dW (pageP l)) W2 := by
    by_cases h0 : l = []
    · subst h0
      have e : pageP [] = [45] := rfl
      simp only [bodyM, startD, sSeq, sIfS, sB, sNot, sNotV, sAnd, sAndT, sOrT, sOp, sVar, sC, sRet, sExpr, sSet, sAsg, sPar, sAug, sCons, sNil, sTup, sLst, sCall, sCB, fb1, ↓RL.bind_m, R.ofO_some, R.ofO_none, R.ofO, List.map_cons, List.map_nil, List.length_cons, List.length_nil, List.cons_append, List.nil_append, List.append_nil, List.replicate, List.set_cons_zero, List.set_cons_succ, List.getElem?_cons_zero, List.getElem?_cons_succ, Option.bind_some, Option.map_some, Option.bind_none, Option.map_none, if_true, if_false, Bool.false_eq_true, decide_true, decide_false, Nat.reduceAdd, Nat.reduceSub, Bool.not_true, Bool.not_false, sIf, sYes, sNext, sBad, tgName, tgTup, tgCons, tgNil, tupOf, seqOf, lstOf, ↓reduceIte, Nat.zero_le, Nat.reduceLeDiff, nn, ne_eq, not_true_eq_false, e, s_minus]
    · have e : pageP l = joinL [10] (l.map lineP) := by simp [pageP, h0]
      have jn := join_nlL (ws := W2) (ls := l.map lineP) (by rw [← e]; omega)
      simp only [dWs] at jn
      rw [e]
      simp only [bodyM, startD, sSeq, sIfS, sB, sNot, sNotV, sAnd, sAndT, sOrT, sOp, sVar, sC, sRet, sExpr, sSet, sAsg, sPar, sAug, sCons, sNil, sTup, sLst, sCall, sCB, fb1, ↓RL.bind_m, R.ofO_some, R.ofO_none, R.ofO, List.map_cons, List.map_nil, List.length_cons, List.length_nil, List.cons_append, List.nil_append, List.append_nil, List.replicate, List.set_cons_zero, List.set_cons_succ, List.getElem?_cons_zero, List.getElem?_cons_succ, Option.bind_some, Option.map_some, Option.bind_none, Option.map_none, if_true, if_false, Bool.false_eq_true, decide_true, decide_false, Nat.reduceAdd, Nat.reduceSub, Bool.not_true, Bool.not_false, sIf, sYes, sNext, sBad, tgName, tgTup, tgCons, tgNil, tupOf, seqOf, lstOf, ↓reduceIte, Nat.zero_le, Nat.reduceLeDiff, nn, ne_eq, h0, not_false_eq_true, sMB, st, sLc, sLcG, sItL, itOf, wipeD, ls, fzL, jn]
  have hfs : (sLc [7, 8] (sItL (sVar 3)) (tgTup 2 (tgCons (tgName 7) (tgCons (tgName 8) tgNil))) sYes (sVar 7)) [u0, some (.cell p), u2, some (.lst (pairsD l)), u4, u5, u6, u7, u8, u9, u10, u11, u12] W2 = .ok (.lst (dPs l)) W2 := by
    simp only [bodyM, startD, sSeq, sIfS, sB, sNot, sNotV, sAnd, sAndT, sOrT, sOp, sVar, sC, sRet, sExpr, sSet, sAsg, sPar, sAug, sCons, sNil, sTup, sLst, sCall, sCB, fb1, ↓RL.bind_m, R.ofO_some, R.ofO_none, R.ofO, List.map_cons, List.map_nil, List.length_cons, List.length_nil, List.cons_append, List.nil_append, List.append_nil, List.replicate, List.set_cons_zero, List.set_cons_succ, List.getElem?_cons_zero, List.getElem?_cons_succ, Option.bind_some, Option.map_some, Option.bind_none, Option.map_none, if_true, if_false, Bool.false_eq_true, decide_true, decide_false, Nat.reduceAdd, Nat.reduceSub, Bool.not_true, Bool.not_false, sIf, sYes, sNext, sBad, tgName, tgTup, tgCons, tgNil, tupOf, seqOf, lstOf, ↓reduceIte, Nat.zero_le, Nat.reduceLeDiff, sLc, sLcG, sItL, itOf, wipeD, lf, fzL]
  obtain ⟨x4, x9, W3, e3, D3⟩ := loop0 (u0 := u0) (u2 := u2) (u3 := some (.lst (pairsD l))) (u4 := u4) (u5 := some (.lst (dPs l))) (u7 := u7) (u8 := u8) (u9 := u9) (u10 := u10) (u11 := u11) (u12 := u12) D2 (by omega) sz
  have bi : ∀ i n, below n (.int i) = true := fun _ _ => rfl
  have bb : ∀ b n, below n (.bl b) = true := fun _ _ => rfl
  have bn : ∀ n, below n .non = true := fun _ => rfl
  have bs : ∀ s n, below n (.str s) = true := fun _ _ => rfl
  have bt0 : ∀ n, below n (.tup []) = true := fun _ => rfl
  have mk1 := mk_b (ws := W3) (bi 0) bt0
  have mk2 := mk_b (ws := W3) (b := .lst [.int 1]) (bi 0) (fun _ => rfl)
  have mk3 := mk_b (ws := W3) (bi (-1)) bt0
  have mk4 := mk_b (ws := W3) (bb true) bt0
  have mk5 := mk_b (ws := W3) (b := .tup [.bl true]) (bi 0) (fun _ => rfl)
  have mk6 := mk_b (ws := W3) (b := .tup [.int 1, .int (-1)]) (bi 0) (fun _ => rfl)
  have mk7 := mk_b (ws := W3) (b := .tup [.int 1]) bn (fun _ => rfl)
  have mk8 := mk_b (ws := W3) (bi 0) bn
  have mk9 := mk_b (ws := W3) (bs "0") bt0
  have ct1 : fCat W3 (.lst (dPs l)) (.lst [.int 0]) = some (.lst (dPs l ++ [.int 0])) := by
    simp only [fCat, lstOf, Option.bind_some]
    rw [if_pos (by simp [dPs]; omega)]
  obtain ⟨y1, W4, e4, D4, hy1⟩ := pick (l := oddL l) D3 (by simp [oddL]) (by simp [oddL]) (by omega)
  have to := text_odd (ws := W4) hl h2 y1 hy1
  have hh1 : m__law_heard (fun ws1 => m_packets_text [y1] ws1) W4 = .ok (.tup [.str "stream", .str "packets"]) W4 := heard_stream to
  have ns := ne_self_D (ws := W4) sh_stream (by decide)
  have mk10 := mk_b (ws := W4) (bi 0) bt0
  obtain ⟨y2, W5, e5, D5, hy2⟩ := pick (l := oddR) D4 (by simp [oddR]) (by simp [oddR]) (by omega)
  have ro := read_odd (ws := W5) y2 hy2
  have hh2 : m__law_heard (fun ws1 => m_read_packets [y2] ws1) W5 = .ok (.tup [.str "text", .str "0", .str "0"]) W5 := by
    rw [← err00]
    exact heard_bt (a := 0) (b := 0) ro (by decide +kernel) (by decide +kernel)
  have nt := ne_self_D (ws := W5) (sh_err 0 0) (by decide)
  rw [err00] at nt
  have r3' : (3 : Int).toNat = 3 := rfl
  refine ⟨some (.lst (pairsD l)), x4, some (.lst (dPs l)), some (dW (pageP l)), x9, some (.lst (oddL l)), some y2, W5, ?_, D5.up (by omega)⟩
  refine seq_nx (ρ1 := [u0, some (.cell p), u2, some (.lst (pairsD l)), u4, u5, u6, u7, u8, u9, u10, u11, u12]) (ws1 := W2) ?_ ?_
  · simp only [bodyM, startD, sSeq, sIfS, sB, sNot, sNotV, sAnd, sAndT, sOrT, sOp, sVar, sC, sRet, sExpr, sSet, sAsg, sPar, sAug, sCons, sNil, sTup, sLst, sCall, sCB, fb1, ↓RL.bind_m, R.ofO_some, R.ofO_none, R.ofO, List.map_cons, List.map_nil, List.length_cons, List.length_nil, List.cons_append, List.nil_append, List.append_nil, List.replicate, List.set_cons_zero, List.set_cons_succ, List.getElem?_cons_zero, List.getElem?_cons_succ, Option.bind_some, Option.map_some, Option.bind_none, Option.map_none, if_true, if_false, Bool.false_eq_true, decide_true, decide_false, Nat.reduceAdd, Nat.reduceSub, Bool.not_true, Bool.not_false, sIf, sYes, sNext, sBad, tgName, tgTup, tgCons, tgNil, tupOf, seqOf, lstOf, ↓reduceIte, Nat.zero_le, Nat.reduceLeDiff, sLc, sLcG, sItR1, e1, rg, and_self, hn, wipeD, fzL, e2]
  refine seq_nx (ρ1 := [u0, some (.cell p), u2, some (.lst (pairsD l)), u4, some (.lst (dPs l)), some (dW (pageP l)), u7, u8, u9, u10, u11, u12]) (ws1 := W2) ?_ ?_
  · rw [sPar]
    simp only [sCons, hfs, hpg, sNil, R.bind_ok, List.set_cons_zero, List.set_cons_succ]
  refine seq_nx (ρ1 := [u0, some (.cell p), u2, some (.lst (pairsD l)), u4, some (.lst (dPs l)), some (dW (pageP l)), u7, u8, u9, u10, u11, u12]) (ws1 := W2) ?_ ?_
  · simp only [bodyM, startD, sSeq, sIfS, sB, sNot, sNotV, sAnd, sAndT, sOrT, sOp, sVar, sC, sRet, sExpr, sSet, sAsg, sPar, sAug, sCons, sNil, sTup, sLst, sCall, sCB, fb1, ↓RL.bind_m, R.ofO_some, R.ofO_none, R.ofO, List.map_cons, List.map_nil, List.length_cons, List.length_nil, List.cons_append, List.nil_append, List.append_nil, List.replicate, List.set_cons_zero, List.set_cons_succ, List.getElem?_cons_zero, List.getElem?_cons_succ, Option.bind_some, Option.map_some, Option.bind_none, Option.map_none, if_true, if_false, Bool.false_eq_true, decide_true, decide_false, Nat.reduceAdd, Nat.reduceSub, Bool.not_true, Bool.not_false, sIf, sYes, sNext, sBad, tgName, tgTup, tgCons, tgNil, tupOf, seqOf, lstOf, ↓reduceIte, Nat.zero_le, Nat.reduceLeDiff, pt1, pt2, gt, ne_str, eq_self]
  refine seq_nx (ρ1 := [u0, some (.cell p), u2, some (.lst (pairsD l)), u4, some (.lst (dPs l)), some (dW (pageP l)), u7, u8, u9, u10, u11, u12]) (ws1 := W2) ?_ ?_
  · simp only [bodyM, startD, sSeq, sIfS, sB, sNot, sNotV, sAnd, sAndT, sOrT, sOp, sVar, sC, sRet, sExpr, sSet, sAsg, sPar, sAug, sCons, sNil, sTup, sLst, sCall, sCB, fb1, ↓RL.bind_m, R.ofO_some, R.ofO_none, R.ofO, List.map_cons, List.map_nil, List.length_cons, List.length_nil, List.cons_append, List.nil_append, List.append_nil, List.replicate, List.set_cons_zero, List.set_cons_succ, List.getElem?_cons_zero, List.getElem?_cons_succ, Option.bind_some, Option.map_some, Option.bind_none, Option.map_none, if_true, if_false, Bool.false_eq_true, decide_true, decide_false, Nat.reduceAdd, Nat.reduceSub, Bool.not_true, Bool.not_false, sIf, sYes, sNext, sBad, tgName, tgTup, tgCons, tgNil, tupOf, seqOf, lstOf, ↓reduceIte, Nat.zero_le, Nat.reduceLeDiff, rp, gt, nk, onr]
  refine seq_nx (ρ1 := [u0, some (.cell p), u2, some (.lst (pairsD l)), x4, some (.lst (dPs l)), some (dW (pageP l)), u7, u8, x9, u10, u11, u12]) (ws1 := W3) ?_ ?_
  · simp only [bodyM, startD, sSeq, sIfS, sB, sNot, sNotV, sAnd, sAndT, sOrT, sOp, sVar, sC, sRet, sExpr, sSet, sAsg, sPar, sAug, sCons, sNil, sTup, sLst, sCall, sCB, fb1, ↓RL.bind_m, R.ofO_some, R.ofO_none, R.ofO, List.map_cons, List.map_nil, List.length_cons, List.length_nil, List.cons_append, List.nil_append, List.append_nil, List.replicate, List.set_cons_zero, List.set_cons_succ, List.getElem?_cons_zero, List.getElem?_cons_succ, Option.bind_some, Option.map_some, Option.bind_none, Option.map_none, if_true, if_false, Bool.false_eq_true, decide_true, decide_false, Nat.reduceAdd, Nat.reduceSub, Bool.not_true, Bool.not_false, sIf, sYes, sNext, sBad, tgName, tgTup, tgCons, tgNil, tupOf, seqOf, lstOf, ↓reduceIte, Nat.zero_le, Nat.reduceLeDiff, sFor, sItR1, r3, and_self, r3', e3]
  refine seq_nx (ρ1 := [u0, some (.cell p), u2, some (.lst (pairsD l)), x4, some (.lst (dPs l)), some (dW (pageP l)), u7, u8, x9, some (.lst (oddA l)), u11, u12]) (ws1 := W3) ?_ ?_
  · simp only [bodyM, startD, sSeq, sIfS, sB, sNot, sNotV, sAnd, sAndT, sOrT, sOp, sVar, sC, sRet, sExpr, sSet, sAsg, sPar, sAug, sCons, sNil, sTup, sLst, sCall, sCB, fb1, ↓RL.bind_m, R.ofO_some, R.ofO_none, R.ofO, List.map_cons, List.map_nil, List.length_cons, List.length_nil, List.cons_append, List.nil_append, List.append_nil, List.replicate, List.set_cons_zero, List.set_cons_succ, List.getElem?_cons_zero, List.getElem?_cons_succ, Option.bind_some, Option.map_some, Option.bind_none, Option.map_none, if_true, if_false, Bool.false_eq_true, decide_true, decide_false, Nat.reduceAdd, Nat.reduceSub, Bool.not_true, Bool.not_false, sIf, sYes, sNext, sBad, tgName, tgTup, tgCons, tgNil, tupOf, seqOf, lstOf, ↓reduceIte, Nat.zero_le, Nat.reduceLeDiff, sMk, sDct0, sNeg, mk1, mk2, mk3, ct1, oddA]
  refine seq_nx (ρ1 := [u0, some (.cell p), u2, some (.lst (pairsD l)), x4, some (.lst (dPs l)), some (dW (pageP l)), u7, u8, x9, some (.lst (oddL l)), u11, u12]) (ws1 := W3) ?_ ?_
  · have ct2 : fCat W3 (.lst (oddA l)) (.lst oddB) = some (.lst (oddL l)) := by
      simp only [fCat, lstOf, Option.bind_some]
      rw [if_pos (by simp [oddA, oddB])]
      rfl
    rw [oddB] at ct2
    simp only [bodyM, startD, sSeq, sIfS, sB, sNot, sNotV, sAnd, sAndT, sOrT, sOp, sVar, sC, sRet, sExpr, sSet, sAsg, sPar, sAug, sCons, sNil, sTup, sLst, sCall, sCB, fb1, ↓RL.bind_m, R.ofO_some, R.ofO_none, R.ofO, List.map_cons, List.map_nil, List.length_cons, List.length_nil, List.cons_append, List.nil_append, List.append_nil, List.replicate, List.set_cons_zero, List.set_cons_succ, List.getElem?_cons_zero, List.getElem?_cons_succ, Option.bind_some, Option.map_some, Option.bind_none, Option.map_none, if_true, if_false, Bool.false_eq_true, decide_true, decide_false, Nat.reduceAdd, Nat.reduceSub, Bool.not_true, Bool.not_false, sIf, sYes, sNext, sBad, tgName, tgTup, tgCons, tgNil, tupOf, seqOf, lstOf, ↓reduceIte, Nat.zero_le, Nat.reduceLeDiff, sMk, sNeg, mk4, mk5, mk6, mk7, mk8, mk9, ct2]
  refine seq_nx (ρ1 := [u0, some (.cell p), u2, some (.lst (pairsD l)), x4, some (.lst (dPs l)), some (dW (pageP l)), u7, u8, x9, some (.lst (oddL l)), some y1, u12]) (ws1 := W4) ?_ ?_
  · simp only [bodyM, startD, sSeq, sIfS, sB, sNot, sNotV, sAnd, sAndT, sOrT, sOp, sVar, sC, sRet, sExpr, sSet, sAsg, sPar, sAug, sCons, sNil, sTup, sLst, sCall, sCB, fb1, ↓RL.bind_m, R.ofO_some, R.ofO_none, R.ofO, List.map_cons, List.map_nil, List.length_cons, List.length_nil, List.cons_append, List.nil_append, List.append_nil, List.replicate, List.set_cons_zero, List.set_cons_succ, List.getElem?_cons_zero, List.getElem?_cons_succ, Option.bind_some, Option.map_some, Option.bind_none, Option.map_none, if_true, if_false, Bool.false_eq_true, decide_true, decide_false, Nat.reduceAdd, Nat.reduceSub, Bool.not_true, Bool.not_false, sIf, sYes, sNext, sBad, tgName, tgTup, tgCons, tgNil, tupOf, seqOf, lstOf, ↓reduceIte, Nat.zero_le, Nat.reduceLeDiff, e4]
  refine seq_nx (ρ1 := [u0, some (.cell p), u2, some (.lst (pairsD l)), x4, some (.lst (dPs l)), some (dW (pageP l)), u7, u8, x9, some (.lst (oddL l)), some y1, u12]) (ws1 := W4) ?_ ?_
  · simp only [bodyM, startD, sSeq, sIfS, sB, sNot, sNotV, sAnd, sAndT, sOrT, sOp, sVar, sC, sRet, sExpr, sSet, sAsg, sPar, sAug, sCons, sNil, sTup, sLst, sCall, sCB, fb1, ↓RL.bind_m, R.ofO_some, R.ofO_none, R.ofO, List.map_cons, List.map_nil, List.length_cons, List.length_nil, List.cons_append, List.nil_append, List.append_nil, List.replicate, List.set_cons_zero, List.set_cons_succ, List.getElem?_cons_zero, List.getElem?_cons_succ, Option.bind_some, Option.map_some, Option.bind_none, Option.map_none, if_true, if_false, Bool.false_eq_true, decide_true, decide_false, Nat.reduceAdd, Nat.reduceSub, Bool.not_true, Bool.not_false, sIf, sYes, sNext, sBad, tgName, tgTup, tgCons, tgNil, tupOf, seqOf, lstOf, ↓reduceIte, Nat.zero_le, Nat.reduceLeDiff, sAsk, hh1, ns]
  refine seq_nx (ρ1 := [u0, some (.cell p), u2, some (.lst (pairsD l)), x4, some (.lst (dPs l)), some (dW (pageP l)), u7, u8, x9, some (.lst (oddL l)), some y2, u12]) (ws1 := W5) ?_ ?_
  · rw [oddR] at e5
    simp only [bodyM, startD, sSeq, sIfS, sB, sNot, sNotV, sAnd, sAndT, sOrT, sOp, sVar, sC, sRet, sExpr, sSet, sAsg, sPar, sAug, sCons, sNil, sTup, sLst, sCall, sCB, fb1, ↓RL.bind_m, R.ofO_some, R.ofO_none, R.ofO, List.map_cons, List.map_nil, List.length_cons, List.length_nil, List.cons_append, List.nil_append, List.append_nil, List.replicate, List.set_cons_zero, List.set_cons_succ, List.getElem?_cons_zero, List.getElem?_cons_succ, Option.bind_some, Option.map_some, Option.bind_none, Option.map_none, if_true, if_false, Bool.false_eq_true, decide_true, decide_false, Nat.reduceAdd, Nat.reduceSub, Bool.not_true, Bool.not_false, sIf, sYes, sNext, sBad, tgName, tgTup, tgCons, tgNil, tupOf, seqOf, lstOf, ↓reduceIte, Nat.zero_le, Nat.reduceLeDiff, sMk, sDct0, mk10, e5]
  · simp only [bodyM, startD, sSeq, sIfS, sB, sNot, sNotV, sAnd, sAndT, sOrT, sOp, sVar, sC, sRet, sExpr, sSet, sAsg, sPar, sAug, sCons, sNil, sTup, sLst, sCall, sCB, fb1, ↓RL.bind_m, R.ofO_some, R.ofO_none, R.ofO, List.map_cons, List.map_nil, List.length_cons, List.length_nil, List.cons_append, List.nil_append, List.append_nil, List.replicate, List.set_cons_zero, List.set_cons_succ, List.getElem?_cons_zero, List.getElem?_cons_succ, Option.bind_some, Option.map_some, Option.bind_none, Option.map_none, if_true, if_false, Bool.false_eq_true, decide_true, decide_false, Nat.reduceAdd, Nat.reduceSub, Bool.not_true, Bool.not_false, sIf, sYes, sNext, sBad, tgName, tgTup, tgCons, tgNil, tupOf, seqOf, lstOf, ↓reduceIte, Nat.zero_le, Nat.reduceLeDiff, sAsk, hh2, nt]
end
end K87
set_option Elab.async false
set_option linter.all false
set_option maxRecDepth 100000
set_option maxHeartbeats 4000000
namespace K87
open RL PySem L2 TL
theorem law_pen (S : List Int) (h : S.length ≤ 63) : m__law_pen [.fz (S.map .int)] [] = .ok (.cell 0) [pen S 0 0] := by
  have c : cutG (S.map D.int) none (some 63) = S.map .int := by
    have e : (63 : Int) = ((63 : Nat) : Int) := rfl
    rw [e]
    simp only [cutG, HT.sIx_none, HT.sIx_nat, List.length_map, List.drop_zero, Nat.sub_zero]
    rw [Nat.min_eq_right h, List.take_of_length_le (by simp)]
  have h2 : S.length ≤ 100000 := by omega
  simp only [m__law_pen, g__law_pen, N__law_pen, bodyM, startD, sSeq, sIfS, sB, sNot, sNotV, sAnd, sAndT, sOrT, sOp, sVar, sC, sRet, sExpr, sSet, sAsg, sPar, sAug, sCons, sNil, sTup, sLst, sCall, sCB, fb1, ↓RL.bind_m, R.ofO_some, R.ofO_none, R.ofO, List.map_cons, List.map_nil, List.length_cons, List.length_nil, List.cons_append, List.nil_append, List.append_nil, List.replicate, List.set_cons_zero, List.set_cons_succ, List.getElem?_cons_zero, List.getElem?_cons_succ, Option.bind_some, Option.map_some, Option.bind_none, Option.map_none, if_true, if_false, Bool.false_eq_true, decide_true, decide_false, Nat.reduceAdd, Nat.reduceSub, Bool.not_true, Bool.not_false, sIf, sYes, sNext, sBad, tgName, tgTup, tgCons, tgNil, tupOf, seqOf, lstOf, ↓reduceIte, Nat.zero_le, Nat.reduceLeDiff, sSlice, soNone, soSome, c, gList, seqOf, List.length_map, h2, sLstM, fin, flR]
  rfl
def PG : List (List Nat) := [[], [45], [45, 32], [45, 10], [45, 32, 45], [48, 32, 58, 32, 45, 10], [48, 32, 58, 32, 45, 10, 45], [48, 32, 58, 32, 45, 32, 49], [48, 32, 58], [48]]
theorem pg_str : [D.str "", .str "-", .str "- ", .str "-\n", .str "- -", .str "0 : -\n", .str "0 : -\n-", .str "0 : - 1", .str "0 :", .str "0"] = PG.map dW := by decide +kernel
theorem pg_ok : ∀ x ∈ PG, Gx x := by
  intro x hx
  simp only [PG, List.mem_cons, List.not_mem_nil, or_false] at hx
  rcases hx with rfl | rfl | rfl | rfl | rfl | rfl | rfl | rfl | rfl | rfl <;> exact ⟨by decide, by decide⟩
def DUE : List D := [.tup [.str "text", .str "0", .str "0"], .non, .tup [.str "text", .str "0", .str "1"], .tup [.str "text", .str "1", .str "0"], .tup [.str "text", .str "0", .str "1"], .tup [.str "text", .str "1", .str "0"], .tup [.str "text", .str "1", .str "0"]]
theorem due_pg : (PG.take 7).map (fun x => dueD (readP x)) = DUE := by
  have e0 : readP [] = .error (0, 0) := rfl
  have e1 : readP [45] = .ok [] := rfl
  have e2 : readP [45, 32] = .error (0, 1) := rfl
  have e3 : readP [45, 10] = .error (1, 0) := rfl
  have e4 : readP [45, 32, 45] = .error (0, 1) := rfl
  have e5 : readP [48, 32, 58, 32, 45, 10] = .error (1, 0) := rfl
  have e6 : readP [48, 32, 58, 32, 45, 10, 45] = .error (1, 0) := rfl
  simp only [PG, List.take_succ_cons, List.take_zero, List.map_cons, List.map_nil, e0, e1, e2, e3, e4, e5, e6, dueD, dErr, num01.1, num01.2, DUE]
theorem sh_due : ShL DUE 1 := by
  have t : ∀ a b : Str, PyData.strOk a = true → PyData.strOk b = true → Sh (.tup [.str "text", .str a, .str b]) 1 := fun a b ha hb => Sh.tup (ShL.cons (Sh.str (by decide +kernel) 0) (ShL.cons (Sh.str ha 0) (ShL.cons (Sh.str hb 0) (ShL.nil 0))))
  have s0 : PyData.strOk "0" = true := by decide +kernel
  have s1 : PyData.strOk "1" = true := by decide +kernel
  exact ShL.cons (t _ _ s0 s0) (ShL.cons (Sh.non 1) (ShL.cons (t _ _ s0 s1) (ShL.cons (t _ _ s1 s0) (ShL.cons (t _ _ s0 s1) (ShL.cons (t _ _ s1 s0) (ShL.cons (t _ _ s1 s0) (ShL.nil 1)))))))
section
variable {ws : List Ce} {u0 u1 u2 u3 u4 u5 u7 u8 u9 u10 u11 u12 : Option D}
theorem lc_right {all : List D} : loopLc all none (tgName 6) (sNot (sB (sCall m__law_one_right (sCons (sVar 6) sNil)))) (sVar 6) [u0, u1, u2, u3, u4, u5, none, u7, u8, u9, u10, u11, u12] (PG.map dW) [] ws = .ok [] ws := by
  have z := lc_filt (src := none) (t := tgName 6) (c := sNot (sB (sCall m__law_one_right (sCons (sVar 6) sNil)))) (el := sVar 6) (ρ := [u0, u1, u2, u3, u4, u5, none, u7, u8, u9, u10, u11, u12]) (ws := ws) (all := all) (f := id) (p := fun _ => false) trivial (PG.map dW) [] (by simp [PG]) (by
    intro d hd
    obtain ⟨x, hx, rfl⟩ := List.mem_map.mp hd
    have r := one_right (ws := ws) (pg_ok x hx)
    refine ⟨[u0, u1, u2, u3, u4, u5, some (dW x), u7, u8, u9, u10, u11, u12], rfl, ?_, rfl⟩
    simp only [bodyM, startD, sSeq, sIfS, sB, sNot, sNotV, sAnd, sAndT, sOrT, sOp, sVar, sC, sRet, sExpr, sSet, sAsg, sPar, sAug, sCons, sNil, sTup, sLst, sCall, sCB, fb1, ↓RL.bind_m, R.ofO_some, R.ofO_none, R.ofO, List.map_cons, List.map_nil, List.length_cons, List.length_nil, List.cons_append, List.nil_append, List.append_nil, List.replicate, List.set_cons_zero, List.set_cons_succ, List.getElem?_cons_zero, List.getElem?_cons_succ, Option.bind_some, Option.map_some, Option.bind_none, Option.map_none, if_true, if_false, Bool.false_eq_true, decide_true, decide_false, Nat.reduceAdd, Nat.reduceSub, Bool.not_true, Bool.not_false, sIf, sYes, sNext, sBad, tgName, tgTup, tgCons, tgNil, tupOf, seqOf, lstOf, ↓reduceIte, Nat.zero_le, Nat.reduceLeDiff, r])
  rw [z]
  simp
theorem lc_due {all : List D} : loopLc all none (tgName 6) sYes (sCall m__law_due (sCons (sVar 6) sNil)) [u0, u1, u2, u3, u4, u5, none, u7, u8, u9, u10, u11, u12] ((PG.take 7).map dW) [] ws = .ok DUE ws := by
  have z := lc_map (src := none) (t := tgName 6) (el := sCall m__law_due (sCons (sVar 6) sNil)) (ρ := [u0, u1, u2, u3, u4, u5, none, u7, u8, u9, u10, u11, u12]) (ws := ws) (all := all) (f := fun d => match d with
    | .str s => dueD (readP (tl s))
    | d => d) trivial ((PG.take 7).map dW) [] (by simp [PG]) (by
    intro d hd
    obtain ⟨x, hx, rfl⟩ := List.mem_map.mp hd
    have r := due_ok (ws := ws) (pg_ok x (List.mem_of_mem_take hx))
    refine ⟨[u0, u1, u2, u3, u4, u5, some (dW x), u7, u8, u9, u10, u11, u12], rfl, ?_⟩
    simp only [bodyM, startD, sSeq, sIfS, sB, sNot, sNotV, sAnd, sAndT, sOrT, sOp, sVar, sC, sRet, sExpr, sSet, sAsg, sPar, sAug, sCons, sNil, sTup, sLst, sCall, sCB, fb1, ↓RL.bind_m, R.ofO_some, R.ofO_none, R.ofO, List.map_cons, List.map_nil, List.length_cons, List.length_nil, List.cons_append, List.nil_append, List.append_nil, List.replicate, List.set_cons_zero, List.set_cons_succ, List.getElem?_cons_zero, List.getElem?_cons_succ, Option.bind_some, Option.map_some, Option.bind_none, Option.map_none, if_true, if_false, Bool.false_eq_true, decide_true, decide_false, Nat.reduceAdd, Nat.reduceSub, Bool.not_true, Bool.not_false, sIf, sYes, sNext, sBad, tgName, tgTup, tgCons, tgNil, tupOf, seqOf, lstOf, ↓reduceIte, Nat.zero_le, Nat.reduceLeDiff, r]
    rfl)
  rw [z, List.nil_append, ← due_pg, List.map_map]
  rfl
end
theorem plain (S : List Int) (h : S.length ≤ 63) : m_law [.fz (S.map .int)] [] = .ok (.bl true) [] := by
  obtain ⟨ρ', v, z, w0, v3, v4, v5, v6, v9, v10, v11, rfl, P⟩ := for_inv (t := tgName 2) (body := b_law_1) (all := intsD 0 7)
    (fun ds ρ w => ∃ (v2 v3 v4 v5 v6 v9 v10 v11 : Option D), ρ = [some (.fz (S.map .int)), some (.cell 0), v2, v3, v4, v5, v6, none, none, v9, v10, v11, none] ∧ Dr S 0 [pen S 0 0] (150 * (7 - (ds.length : Int))) w)
    (intsD 0 7) [some (.fz (S.map .int)), some (.cell 0), none, none, none, none, none, none, none, none, none, none, none] [pen S 0 0]
    ⟨none, none, none, none, none, none, none, none, rfl, by simp, h, 0, 0, rfl, by omega, by rw [intsD_len]; omega, by omega⟩ (by
      rintro d r ρ w ⟨v2, v3, v4, v5, v6, v9, v10, v11, rfl, P⟩
      rw [List.length_cons] at P
      obtain ⟨x3, x4, x5, x6, x9, x10, x11, w', e, P'⟩ := lap1 (u0 := some (.fz (S.map .int))) (u2 := some d) (u3 := v3) (u4 := v4) (u5 := v5) (u6 := v6) (u7 := none) (u8 := none) (u9 := v9) (u10 := v10) (u11 := v11) (u12 := none) P (by omega)
      exact ⟨_, w, _, w', rfl, e, some d, x3, x4, x5, x6, x9, x10, x11, rfl, P'.up (by omega)⟩)
  have r7 : (-1000000 : Int) ≤ 7 ∧ (7 : Int) ≤ 1000000 := by decide
  have c7 : cutG (PG.map dW) none (some 7) = (PG.take 7).map dW := by
    have e : (7 : Int) = ((7 : Nat) : Int) := rfl
    rw [e, cut_to, List.map_take]
  have n0 : fEqD v (.lst []) (.lst []) = some (.bl true) := eq_self_D (Sh.lst (ShL.nil 0)) (by decide)
  have n1 : fEqD v (.lst DUE) (.lst DUE) = some (.bl true) := eq_self_D (Sh.lst sh_due) (by decide)
  have lr := fun {a b c d e f g h i j k l : Option D} => lc_right (ws := v) (all := PG.map dW) (u0 := a) (u1 := b) (u2 := c) (u3 := d) (u4 := e) (u5 := f) (u7 := g) (u8 := h) (u9 := i) (u10 := j) (u11 := k) (u12 := l)
  have ld := fun {a b c d e f g h i j k l : Option D} => lc_due (ws := v) (all := (PG.take 7).map dW) (u0 := a) (u1 := b) (u2 := c) (u3 := d) (u4 := e) (u5 := f) (u7 := g) (u8 := h) (u9 := i) (u10 := j) (u11 := k) (u12 := l)
  have g : g_law [some (.fz (S.map .int)), none, none, none, none, none, none, none, none, none, none, none, none] [] = .ok ([some (.fz (S.map .int)), some (.cell 0), w0, v3, v4, v5, v6, none, none, v9, some (.lst (PG.map dW)), v11, some (.lst DUE)], .rt (.bl true)) v := by
    refine seq_nx (ρ1 := [some (.fz (S.map .int)), some (.cell 0), none, none, none, none, none, none, none, none, none, none, none]) (ws1 := [pen S 0 0]) ?_ ?_
    · simp only [bodyM, startD, sSeq, sIfS, sB, sNot, sNotV, sAnd, sAndT, sOrT, sOp, sVar, sC, sRet, sExpr, sSet, sAsg, sPar, sAug, sCons, sNil, sTup, sLst, sCall, sCB, fb1, ↓RL.bind_m, R.ofO_some, R.ofO_none, R.ofO, List.map_cons, List.map_nil, List.length_cons, List.length_nil, List.cons_append, List.nil_append, List.append_nil, List.replicate, List.set_cons_zero, List.set_cons_succ, List.getElem?_cons_zero, List.getElem?_cons_succ, Option.bind_some, Option.map_some, Option.bind_none, Option.map_none, if_true, if_false, Bool.false_eq_true, decide_true, decide_false, Nat.reduceAdd, Nat.reduceSub, Bool.not_true, Bool.not_false, sIf, sYes, sNext, sBad, tgName, tgTup, tgCons, tgNil, tupOf, seqOf, lstOf, ↓reduceIte, Nat.zero_le, Nat.reduceLeDiff, law_pen S h]
    refine seq_nx (ρ1 := [some (.fz (S.map .int)), some (.cell 0), w0, v3, v4, v5, v6, none, none, v9, v10, v11, none]) (ws1 := v) ?_ ?_
    · simp only [bodyM, startD, sSeq, sIfS, sB, sNot, sNotV, sAnd, sAndT, sOrT, sOp, sVar, sC, sRet, sExpr, sSet, sAsg, sPar, sAug, sCons, sNil, sTup, sLst, sCall, sCB, fb1, ↓RL.bind_m, R.ofO_some, R.ofO_none, R.ofO, List.map_cons, List.map_nil, List.length_cons, List.length_nil, List.cons_append, List.nil_append, List.append_nil, List.replicate, List.set_cons_zero, List.set_cons_succ, List.getElem?_cons_zero, List.getElem?_cons_succ, Option.bind_some, Option.map_some, Option.bind_none, Option.map_none, if_true, if_false, Bool.false_eq_true, decide_true, decide_false, Nat.reduceAdd, Nat.reduceSub, Bool.not_true, Bool.not_false, sIf, sYes, sNext, sBad, tgName, tgTup, tgCons, tgNil, tupOf, seqOf, lstOf, ↓reduceIte, Nat.zero_le, Nat.reduceLeDiff, sFor, sItR1, r7, and_self, show (7 : Int).toNat = 7 from rfl, z]
    refine seq_nx (ρ1 := [some (.fz (S.map .int)), some (.cell 0), w0, v3, v4, v5, v6, none, none, v9, some (.lst (PG.map dW)), v11, none]) (ws1 := v) ?_ ?_
    · rw [← pg_str]
      simp only [bodyM, startD, sSeq, sIfS, sB, sNot, sNotV, sAnd, sAndT, sOrT, sOp, sVar, sC, sRet, sExpr, sSet, sAsg, sPar, sAug, sCons, sNil, sTup, sLst, sCall, sCB, fb1, ↓RL.bind_m, R.ofO_some, R.ofO_none, R.ofO, List.map_cons, List.map_nil, List.length_cons, List.length_nil, List.cons_append, List.nil_append, List.append_nil, List.replicate, List.set_cons_zero, List.set_cons_succ, List.getElem?_cons_zero, List.getElem?_cons_succ, Option.bind_some, Option.map_some, Option.bind_none, Option.map_none, if_true, if_false, Bool.false_eq_true, decide_true, decide_false, Nat.reduceAdd, Nat.reduceSub, Bool.not_true, Bool.not_false, sIf, sYes, sNext, sBad, tgName, tgTup, tgCons, tgNil, tupOf, seqOf, lstOf, ↓reduceIte, Nat.zero_le, Nat.reduceLeDiff]
    refine seq_nx (ρ1 := [some (.fz (S.map .int)), some (.cell 0), w0, v3, v4, v5, v6, none, none, v9, some (.lst (PG.map dW)), v11, some (.lst DUE)]) (ws1 := v) ?_ ?_
    · rw [DUE]
      simp only [bodyM, startD, sSeq, sIfS, sB, sNot, sNotV, sAnd, sAndT, sOrT, sOp, sVar, sC, sRet, sExpr, sSet, sAsg, sPar, sAug, sCons, sNil, sTup, sLst, sCall, sCB, fb1, ↓RL.bind_m, R.ofO_some, R.ofO_none, R.ofO, List.map_cons, List.map_nil, List.length_cons, List.length_nil, List.cons_append, List.nil_append, List.append_nil, List.replicate, List.set_cons_zero, List.set_cons_succ, List.getElem?_cons_zero, List.getElem?_cons_succ, Option.bind_some, Option.map_some, Option.bind_none, Option.map_none, if_true, if_false, Bool.false_eq_true, decide_true, decide_false, Nat.reduceAdd, Nat.reduceSub, Bool.not_true, Bool.not_false, sIf, sYes, sNext, sBad, tgName, tgTup, tgCons, tgNil, tupOf, seqOf, lstOf, ↓reduceIte, Nat.zero_le, Nat.reduceLeDiff]
    · simp only [bodyM, startD, sSeq, sIfS, sB, sNot, sNotV, sAnd, sAndT, sOrT, sOp, sVar, sC, sRet, sExpr, sSet, sAsg, sPar, sAug, sCons, sNil, sTup, sLst, sCall, sCB, fb1, ↓RL.bind_m, R.ofO_some, R.ofO_none, R.ofO, List.map_cons, List.map_nil, List.length_cons, List.length_nil, List.cons_append, List.nil_append, List.append_nil, List.replicate, List.set_cons_zero, List.set_cons_succ, List.getElem?_cons_zero, List.getElem?_cons_succ, Option.bind_some, Option.map_some, Option.bind_none, Option.map_none, if_true, if_false, Bool.false_eq_true, decide_true, decide_false, Nat.reduceAdd, Nat.reduceSub, Bool.not_true, Bool.not_false, sIf, sYes, sNext, sBad, tgName, tgTup, tgCons, tgNil, tupOf, seqOf, lstOf, ↓reduceIte, Nat.zero_le, Nat.reduceLeDiff, sLc, sLcG, sItL, itOf, wipeD, lr, fzL, n0, sSlice, soNone, soSome, c7, ld, n1]
  have q := fin_rtA (ws := []) (xs := v) (ρ := [some (.fz (S.map .int)), some (.cell 0), w0, v3, v4, v5, v6, none, none, v9, some (.lst (PG.map dW)), v11, some (.lst DUE)]) (d := .bl true) (d' := .bl true) rfl (fun _ => rfl)
  simp only [m_law, bodyM, N_law, startD, List.length_cons, List.length_nil, Nat.reduceAdd, Nat.reduceSub, List.map_cons, List.map_nil, List.replicate, List.cons_append, List.nil_append, if_true, g]
  simpa using q
end K87
set_option Elab.async false
set_option linter.all false
set_option maxRecDepth 100000
set_option maxHeartbeats 0
open PySem PySem.W PySem.Calls PyProof.Rows
theorem PySem.Challenge.cw_laterepair_k87_texts_of_packets_holds : PySem.Challenge.rw_laterepair_k87_texts_of_packets.Holds := by
  w_on; o_law
  refine HandSHeadRun.head_any (r := OpenLaw.row PySem.Challenge.rw_laterepair_k87_texts_of_packets) (q := view (OpenLaw.row PySem.Challenge.rw_laterepair_k87_texts_of_packets).prog [22, 24, 25]) (H := K87.hk) (ob := K87.ob) (M := 30000) (loose := K87.l0) (d := HandSHeadRun.topDef (OpenLaw.row PySem.Challenge.rw_laterepair_k87_texts_of_packets).prog 25) (kwd := []) K87.ob_eq
    (by kernel_rfl) (fun s => by kernel_rfl) K87.run (by kernel_rfl) (by kernel_rfl) (by kernel_rfl) (by rfl) (by first | assumption | decide +kernel) (by decide +kernel) ⟨rfl, rfl, rfl, rfl, rfl, by decide +kernel⟩ ?hw ?hc
  case hw => w_witness2
  case hc =>
    refine RL.walk_end (l := PySem.Challenge.rw_laterepair_k87_texts_of_packets) (n := 63) (k := 11) (m := K87.m_law) ["_law_due", "_law_one_right", "law"] rfl (by decide) (by kernel_rfl) ⟨rfl, by decide, by decide⟩ (List.all_eq_true.mp (by kernel_rfl)) ?F fun ns h _ => K87.plain ns h
    intro w mg fa h Y G hmg0
    obtain ⟨K, KX, c⟩ := Y
    have hmg : mg ("law" : PySem.Str) = some (.ref fa) := by
      have e : (HandSHeadRun.topDef (OpenLaw.row PySem.Challenge.rw_laterepair_k87_texts_of_packets).prog 25).name = ("law" : PySem.Str) := by kernel_rfl
      rw [← e]
      exact hmg0
    have gl : mg ("law" : PySem.Str) = some (.ref (He.ga K "law")) := He.glo_ok KX G (c.fact 15 rfl)
    have e := hmg.symm.trans gl
    cases e
    exact ⟨K, KX, c.fact 57 rfl, fun base _ _ TB => (K87.ok_law (K87.fx_of (by kernel_rfl) (by kernel_rfl) KX G c) TB).1⟩

