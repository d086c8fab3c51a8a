import PyProof.Rows.All
import Wide.All
import OpenK.AllK
import Wide.FinOn
import HandS.ForMost
import HandS.Exc
import HandS.TryOnly
import HandS.TryMany
import HandS.ExcOwn
import HandS.WordsExc
import HandS.CallSlots
import HandS.Defaults
import HandS.TupAny
import HandS.TupMul
import HandS.Flow
import HandS.Wide
import HandS.IsInst
import HandS.Zip
import HandS.NoneIn
import HandS.Conv
import HandS.SortInts
import HandS.WideMore
import KE.GoesNew
import HandS.Style
import HandS.Ends
import PyProof.ReprRoads
import PyProof.ReprLen
import HandS.Dict
import PyProof.Rows.NestShow
import KE.KStateDown
import HandS.More
import HandS.Head0
import HandS.Head1
import HandS.Head2
import HandS.HeadEnd
import HandS.HeadHook1
import HandS.HeadHook2
import PySem.Challenge.RW_wrapcount_k11_whole_both_sides_of_an_ope
set_option Elab.async false
set_option linter.all false
set_option maxRecDepth 100000
set_option maxHeartbeats 4000000
namespace Fw
open PySem PySem.Spec PyProof.Rows L2

/-! ## values, cells, states of the middle layer -/
inductive W where
  | non | bl (b : Bool) | int (i : Int) | str (x : Str) | tup (xs : List W) | lst (xs : List W) | ref (n : Nat) | scr (is : List Int)
inductive Cell where
  | lst (xs : List W)
  | dct (kvs : List (Key × W))
  | ins (c : Str) (fs : List (Str × W))
  | orc (b : Nat)
  | aux
abbrev S := List Cell
abbrev Lv := List (Option W)
abbrev Fl := List (Str × W)
/-- the part of the context that relations speak of -/
structure Gx where
  K : PySem.W.Frag
  mg : Str → Option Value
abbrev gx (X : Cx) : Gx := ⟨X.K, X.mg⟩

/-- the addresses of the cells; of lists that a comprehension is making -/
structure Mu where
  ad : List Addr
  hid : List Addr
def Mu.push (m : Mu) (p : Addr) : Mu := ⟨m.ad ++ [p], m.hid⟩
def FzT (G : Gx) (m : Mu) (H : Hp) (a : Addr) (vs : List V) : Prop :=
  (a ∉ m.ad ∧ a ∉ m.hid ∧ Rd H a (.tup vs)) ∨
    ∃ (o : Obj) (its : Array Value) (n : Nat), G.K.lookup a = some o ∧ o.cls = .type "tuple" ∧ o.data = .seq its n ∧ its.size ≤ sizeLine ∧ Vals vs its.toList
def FzL (m : Mu) (H : Hp) (a : Addr) (vs : List V) : Prop := a ∉ m.ad ∧ a ∉ m.hid ∧ H a = some (.lst vs)
def FzS (G : Gx) (m : Mu) (H : Hp) (a : Addr) (vs : List V) : Prop :=
  (a ∉ m.ad ∧ a ∉ m.hid ∧ Rd H a (.lst vs)) ∨
    ∃ (o : Obj) (its : Array Value) (n : Nat), G.K.lookup a = some o ∧ o.cls = .type "list" ∧ o.dict = none ∧ o.data = .seq its n ∧ its.size ≤ sizeLine ∧ Vals vs its.toList
theorem FzS.sq {G : Gx} {m : Mu} {H : Hp} {a : Addr} {vs : List V} (h : FzS G m H a vs) : SqL G.K H a vs := by
  rcases h with ⟨_, _, h⟩ | h
  · exact .inl h
  · exact .inr h
theorem FzT.sq {G : Gx} {m : Mu} {H : Hp} {a : Addr} {vs : List V} (h : FzT G m H a vs) : SqT G.K H a vs := by
  rcases h with ⟨_, _, h⟩ | h
  · exact .inl h
  · exact .inr h
theorem FzL.sq {K : PySem.W.Frag} {m : Mu} {H : Hp} {a : Addr} {vs : List V} (h : FzL m H a vs) : SqL K H a vs := .inl (.inl h.2.2)

mutual
def RelW (G : Gx) (m : Mu) (H : Hp) : W → V → Prop
  | .non, v => v = .non
  | .bl b, v => v = .bl b
  | .int i, v => v = .int i
  | .str x, v => v = .str x
  | .tup xs, v => ∃ a vs, v = .ref a ∧ FzT G m H a vs ∧ RelWs G m H xs vs
  | .lst xs, v => ∃ a vs, v = .ref a ∧ FzL m H a vs ∧ RelWs G m H xs vs
  | .ref n, v => ∃ a, v = .ref a ∧ m.ad[n]? = some a
  | .scr is, v => ∃ a, v = .ref a ∧ FzS G m H a (is.map V.int)
def RelWs (G : Gx) (m : Mu) (H : Hp) : List W → List V → Prop
  | [], vs => vs = []
  | x :: xs, vs => ∃ v r, vs = v :: r ∧ RelW G m H x v ∧ RelWs G m H xs r
end

/-- time goes on: what is not ours to change is kept, new cells are new -/
structure Ext (m : Mu) (H : Hp) (m' : Mu) (H' : Hp) : Prop where
  ex : ∃ n, m'.ad = m.ad ++ n ∧ ∀ p ∈ n, H p = none
  hx : ∃ n, m'.hid = n ++ m.hid ∧ ∀ p ∈ n, H p = none
  keep : ∀ a o, a ∉ m.ad → H a = some o → H' a = some o
  dom : ∀ a, H a ≠ none → H' a ≠ none
theorem Ext.refl {m : Mu} {H : Hp} : Ext m H m H := ⟨⟨[], by simp⟩, ⟨[], by simp⟩, fun _ _ _ h => h, fun _ h => h⟩
theorem none_back {H H1 : Hp} (d : ∀ a, H a ≠ none → H1 a ≠ none) {p : Addr} (h : H1 p = none) : H p = none := by
  cases e : H p with
  | none => rfl
  | some o => exact absurd h (d p (by rw [e]; exact fun z => by cases z))
theorem Ext.trans {m m1 m2 : Mu} {H H1 H2 : Hp} (a : Ext m H m1 H1) (b : Ext m1 H1 m2 H2) : Ext m H m2 H2 := by
  obtain ⟨n, en, hn⟩ := a.ex
  obtain ⟨n2, en2, hn2⟩ := b.ex
  obtain ⟨k, ek, hk⟩ := a.hx
  obtain ⟨k2, ek2, hk2⟩ := b.hx
  refine ⟨⟨n ++ n2, by rw [en2, en, List.append_assoc], fun p hp => ?_⟩, ⟨k2 ++ k, by rw [ek2, ek, List.append_assoc], fun p hp => ?_⟩, fun x o hx h => ?_, fun x h => b.dom x (a.dom x h)⟩
  · rcases List.mem_append.mp hp with hp | hp
    · exact hn p hp
    · exact none_back a.dom (hn2 p hp)
  · rcases List.mem_append.mp hp with hp | hp
    · exact none_back a.dom (hk2 p hp)
    · exact hk p hp
  · refine b.keep x o (fun z => ?_) (a.keep x o hx h)
    rw [en] at z
    rcases List.mem_append.mp z with z | z
    · exact hx z
    · rw [hn x z] at h; cases h
theorem Ext.notin {m m' : Mu} {H H' : Hp} (e : Ext m H m' H') {a : Addr} {o : HO} (h : a ∉ m.ad) (h2 : H a = some o) : a ∉ m'.ad := fun z => by
  obtain ⟨n, en, hn⟩ := e.ex
  rw [en] at z
  rcases List.mem_append.mp z with z | z
  · exact h z
  · rw [hn a z] at h2; cases h2
theorem Ext.nohid {m m' : Mu} {H H' : Hp} (e : Ext m H m' H') {a : Addr} {o : HO} (h : a ∉ m.hid) (h2 : H a = some o) : a ∉ m'.hid := fun z => by
  obtain ⟨n, en, hn⟩ := e.hx
  rw [en] at z
  rcases List.mem_append.mp z with z | z
  · rw [hn a z] at h2; cases h2
  · exact h z
theorem Ext.inhid {m m' : Mu} {H H' : Hp} (e : Ext m H m' H') {a : Addr} (h : a ∈ m.hid) : a ∈ m'.hid := by
  obtain ⟨n, en, _⟩ := e.hx
  rw [en]
  exact List.mem_append_right _ h
theorem Ext.at {m m' : Mu} {H H' : Hp} (e : Ext m H m' H') {n : Nat} {a : Addr} (h : m.ad[n]? = some a) : m'.ad[n]? = some a := by
  obtain ⟨k, ek, _⟩ := e.ex
  have := (List.getElem?_eq_some_iff.mp h).1
  rw [ek, List.getElem?_append_left this]
  exact h
/-- what holds of values in one heap holds in the other -/
structure Keeps (m : Mu) (H : Hp) (m' : Mu) (H' : Hp) : Prop where
  at' : ∀ (n : Nat) a, m.ad[n]? = some a → m'.ad[n]? = some a
  fz : ∀ a o, a ∉ m.ad → a ∉ m.hid → H a = some o → a ∉ m'.ad ∧ a ∉ m'.hid ∧ H' a = some o
theorem Ext.keeps {m m' : Mu} {H H' : Hp} (e : Ext m H m' H') : Keeps m H m' H' := ⟨fun _ _ h => e.at h, fun a o h1 h2 h3 => ⟨e.notin h1 h3, e.nohid h2 h3, e.keep a o h1 h3⟩⟩
theorem Rd.keeps {m m' : Mu} {H H' : Hp} (e : Keeps m H m' H') {a : Addr} {u : HO} (h : a ∉ m.ad ∧ a ∉ m.hid ∧ Rd H a u) : a ∉ m'.ad ∧ a ∉ m'.hid ∧ Rd H' a u := by
  obtain ⟨h1, h0, h2 | ⟨o, h2⟩⟩ := h
  · have := e.fz a _ h1 h0 h2
    exact ⟨this.1, this.2.1, .inl this.2.2⟩
  · have := e.fz a _ h1 h0 h2
    exact ⟨this.1, this.2.1, .inr ⟨o, this.2.2⟩⟩
theorem FzT.keeps {G : Gx} {m m' : Mu} {H H' : Hp} (e : Keeps m H m' H') {a : Addr} {vs : List V} (h : FzT G m H a vs) : FzT G m' H' a vs := by
  rcases h with h | h
  · exact .inl (Rd.keeps e h)
  · exact .inr h
theorem FzS.keeps {G : Gx} {m m' : Mu} {H H' : Hp} (e : Keeps m H m' H') {a : Addr} {vs : List V} (h : FzS G m H a vs) : FzS G m' H' a vs := by
  rcases h with h | h
  · exact .inl (Rd.keeps e h)
  · exact .inr h
theorem FzL.keeps {m m' : Mu} {H H' : Hp} (e : Keeps m H m' H') {a : Addr} {vs : List V} (h : FzL m H a vs) : FzL m' H' a vs := e.fz a _ h.1 h.2.1 h.2.2
mutual
theorem RelW.keeps {G : Gx} {m m' : Mu} {H H' : Hp} (e : Keeps m H m' H') : ∀ {w : W} {v : V}, RelW G m H w v → RelW G m' H' w v
  | .non, _, h => by simp only [RelW] at *; exact h
  | .bl _, _, h => by simp only [RelW] at *; exact h
  | .int _, _, h => by simp only [RelW] at *; exact h
  | .str _, _, h => by simp only [RelW] at *; exact h
  | .tup xs, v, h => by
    simp only [RelW] at *
    obtain ⟨a, vs, e1, h1, h2⟩ := h
    exact ⟨a, vs, e1, h1.keeps e, RelWs.keeps e h2⟩
  | .lst xs, v, h => by
    simp only [RelW] at *
    obtain ⟨a, vs, e1, h1, h2⟩ := h
    exact ⟨a, vs, e1, h1.keeps e, RelWs.keeps e h2⟩
  | .ref n, v, h => by
    simp only [RelW] at *
    obtain ⟨a, e1, h1⟩ := h
    exact ⟨a, e1, e.at' _ _ h1⟩
  | .scr is, v, h => by
    simp only [RelW] at *
    obtain ⟨a, e1, h1⟩ := h
    exact ⟨a, e1, h1.keeps e⟩
theorem RelWs.keeps {G : Gx} {m m' : Mu} {H H' : Hp} (e : Keeps m H m' H') : ∀ {ws : List W} {vs : List V}, RelWs G m H ws vs → RelWs G m' H' ws vs
  | [], _, h => by simp only [RelWs] at *; exact h
  | x :: xs, _, h => by
    simp only [RelWs] at *
    obtain ⟨v, r, e1, h1, h2⟩ := h
    exact ⟨v, r, e1, RelW.keeps e h1, RelWs.keeps e h2⟩
end
theorem FzT.ext {G : Gx} {m m' : Mu} {H H' : Hp} (e : Ext m H m' H') {a : Addr} {vs : List V} (h : FzT G m H a vs) : FzT G m' H' a vs := h.keeps e.keeps
theorem FzL.ext {m m' : Mu} {H H' : Hp} (e : Ext m H m' H') {a : Addr} {vs : List V} (h : FzL m H a vs) : FzL m' H' a vs := h.keeps e.keeps
theorem RelW.ext {G : Gx} {m m' : Mu} {H H' : Hp} (e : Ext m H m' H') {w : W} {v : V} (h : RelW G m H w v) : RelW G m' H' w v := h.keeps e.keeps
theorem RelWs.ext {G : Gx} {m m' : Mu} {H H' : Hp} (e : Ext m H m' H') {w : List W} {v : List V} (h : RelWs G m H w v) : RelWs G m' H' w v := h.keeps e.keeps
section
variable {G : Gx} {m : Mu} {H : Hp}
theorem RelWs.nil : RelWs G m H [] [] := by simp only [RelWs]
theorem RelWs.cons {w : W} {v : V} {ws : List W} {vs : List V} (h : RelW G m H w v) (t : RelWs G m H ws vs) : RelWs G m H (w :: ws) (v :: vs) := by
  simp only [RelWs]; exact ⟨v, vs, rfl, h, t⟩
theorem RelWs.length : ∀ {ws : List W} {vs : List V}, RelWs G m H ws vs → ws.length = vs.length
  | [], vs, h => by simp only [RelWs] at h; subst h; rfl
  | x :: xs, vs, h => by
    simp only [RelWs] at h
    obtain ⟨v, r, rfl, _, t⟩ := h
    simp [RelWs.length t]
theorem RelWs.append : ∀ {ws us : List W} {vs xs : List V}, RelWs G m H ws vs → RelWs G m H us xs → RelWs G m H (ws ++ us) (vs ++ xs)
  | [], us, vs, xs, h, k => by simp only [RelWs] at h; subst h; exact k
  | x :: ws, us, vs, xs, h, k => by
    simp only [RelWs] at h
    obtain ⟨v, r, rfl, h1, t⟩ := h
    exact .cons h1 (RelWs.append t k)
theorem RelWs.get : ∀ {ws : List W} {vs : List V} {i : Nat} {w : W}, RelWs G m H ws vs → ws[i]? = some w → ∃ v, vs[i]? = some v ∧ RelW G m H w v
  | [], _, _, _, _, e => by simp at e
  | x :: xs, vs, i, w, h, e => by
    simp only [RelWs] at h
    obtain ⟨v, r, rfl, h1, t⟩ := h
    cases i with
    | zero => simp at e; subst e; exact ⟨v, rfl, h1⟩
    | succ i =>
      obtain ⟨v', e', k⟩ := RelWs.get (i := i) t (by simpa using e)
      exact ⟨v', by simpa using e', k⟩
theorem RelWs.get' : ∀ {ws : List W} {vs : List V} {i : Nat} {v : V}, RelWs G m H ws vs → vs[i]? = some v → ∃ w, ws[i]? = some w ∧ RelW G m H w v
  | [], vs, _, _, h, e => by simp only [RelWs] at h; subst h; simp at e
  | x :: xs, vs, i, w, h, e => by
    simp only [RelWs] at h
    obtain ⟨v, r, rfl, h1, t⟩ := h
    cases i with
    | zero => simp at e; subst e; exact ⟨x, rfl, h1⟩
    | succ i =>
      obtain ⟨v', e', k⟩ := RelWs.get' (i := i) t (by simpa using e)
      exact ⟨v', by simpa using e', k⟩
theorem RelWs.set {w : W} {v : V} (r : RelW G m H w v) : ∀ {ws : List W} {vs : List V} (i : Nat), RelWs G m H ws vs → RelWs G m H (ws.set i w) (vs.set i v)
  | [], vs, i, h => by simp only [RelWs] at h; subst h; exact .nil
  | x :: xs, vs, i, h => by
    simp only [RelWs] at h
    obtain ⟨v', r', rfl, h1, t⟩ := h
    cases i with
    | zero => exact .cons r t
    | succ i => exact .cons h1 (RelWs.set r i t)
theorem RelWs.take : ∀ {ws : List W} {vs : List V} (i : Nat), RelWs G m H ws vs → RelWs G m H (ws.take i) (vs.take i)
  | [], vs, i, h => by simp only [RelWs] at h; subst h; simp; exact .nil
  | x :: xs, vs, i, h => by
    simp only [RelWs] at h
    obtain ⟨v', r', rfl, h1, t⟩ := h
    cases i with
    | zero => exact .nil
    | succ i => exact .cons h1 (RelWs.take i t)
theorem RelWs.drop : ∀ {ws : List W} {vs : List V} (i : Nat), RelWs G m H ws vs → RelWs G m H (ws.drop i) (vs.drop i)
  | [], vs, i, h => by simp only [RelWs] at h; subst h; simp; exact .nil
  | x :: xs, vs, i, h => by
    simp only [RelWs] at h
    obtain ⟨v', r', rfl, h1, t⟩ := h
    cases i with
    | zero => exact .cons h1 t
    | succ i => exact RelWs.drop i t
theorem RelWs.eraseIdx : ∀ {ws : List W} {vs : List V} (i : Nat), RelWs G m H ws vs → RelWs G m H (ws.eraseIdx i) (vs.eraseIdx i)
  | [], vs, i, h => by simp only [RelWs] at h; subst h; simp; exact .nil
  | x :: xs, vs, i, h => by
    simp only [RelWs] at h
    obtain ⟨v', r', rfl, h1, t⟩ := h
    cases i with
    | zero => exact t
    | succ i => exact .cons h1 (RelWs.eraseIdx i t)
theorem RelWs.reverse : ∀ {ws : List W} {vs : List V}, RelWs G m H ws vs → RelWs G m H ws.reverse vs.reverse
  | [], vs, h => by simp only [RelWs] at h; subst h; exact .nil
  | x :: xs, vs, h => by
    simp only [RelWs] at h
    obtain ⟨v', r', rfl, h1, t⟩ := h
    simp only [List.reverse_cons]
    exact (RelWs.reverse t).append (.cons h1 .nil)
theorem RelWs.ints : ∀ {is : List Int}, RelWs G m H (is.map W.int) (is.map V.int)
  | [] => .nil
  | i :: r => .cons (by simp only [RelW]) RelWs.ints
theorem RelWs.of_ints : ∀ {is : List Int} {vs : List V}, RelWs G m H (is.map W.int) vs → vs = is.map V.int
  | [], vs, h => by simp only [List.map_nil, RelWs] at h; exact h
  | i :: r, vs, h => by
    simp only [List.map_cons, RelWs, RelW] at h
    obtain ⟨v, t, rfl, rfl, k⟩ := h
    rw [RelWs.of_ints k]; rfl
end

/-! ## the heap of cells -/
def RelF (G : Gx) (m : Mu) (H : Hp) : Fl → List (Str × V) → Prop
  | [], vs => vs = []
  | (k, w) :: r, vs => ∃ v t, vs = (k, v) :: t ∧ RelW G m H w v ∧ RelF G m H r t
def RelK (G : Gx) (m : Mu) (H : Hp) : List (Key × W) → List (Key × V) → Prop
  | [], vs => vs = []
  | (k, w) :: r, vs => ∃ v t, vs = (k, v) :: t ∧ RelW G m H w v ∧ RelK G m H r t
theorem RelF.keeps {G : Gx} {m m' : Mu} {H H' : Hp} (e : Keeps m H m' H') : ∀ {ws : Fl} {vs : List (Str × V)}, RelF G m H ws vs → RelF G m' H' ws vs
  | [], _, h => h
  | (k, w) :: r, _, h => by
    obtain ⟨v, t, e1, h1, h2⟩ := h
    exact ⟨v, t, e1, h1.keeps e, RelF.keeps e h2⟩
theorem RelK.keeps {G : Gx} {m m' : Mu} {H H' : Hp} (e : Keeps m H m' H') : ∀ {ws : List (Key × W)} {vs : List (Key × V)}, RelK G m H ws vs → RelK G m' H' ws vs
  | [], _, h => h
  | (k, w) :: r, _, h => by
    obtain ⟨v, t, e1, h1, h2⟩ := h
    exact ⟨v, t, e1, h1.keeps e, RelK.keeps e h2⟩
theorem RelF.ext {G : Gx} {m m' : Mu} {H H' : Hp} (e : Ext m H m' H') {ws : Fl} {vs : List (Str × V)} (h : RelF G m H ws vs) : RelF G m' H' ws vs := RelF.keeps e.keeps h
theorem RelK.ext {G : Gx} {m m' : Mu} {H H' : Hp} (e : Ext m H m' H') {ws : List (Key × W)} {vs : List (Key × V)} (h : RelK G m H ws vs) : RelK G m' H' ws vs := RelK.keeps e.keeps h
/-- the state that numbers are drawn from -/
def orcGood (cs gs : List Int) (n : Int) (b : Nat) : Prop :=
  cs.length = 64 ∧ (∀ c ∈ cs, 0 ≤ c ∧ c < 2147483647) ∧ (∀ g ∈ gs, 0 ≤ g) ∧ gs.length ≤ 64 ∧ 0 ≤ n ∧ n + b ≤ 2 ^ 64
def RelC (G : Gx) (m : Mu) (H : Hp) (n : Nat) (a : Addr) : Cell → Prop
  | .lst xs => ∃ vs, H a = some (.lst vs) ∧ RelWs G m H xs vs
  | .dct kvs => ∃ vs, H a = some (.dK vs) ∧ RelK G m H kvs vs
  | .ins c fs => ∃ C dx vs, G.mg c = some (.ref C) ∧ H a = some (.ins C dx vs) ∧ RelF G m H fs vs
  | .orc b => ∃ cs gs k ag ac vs, orcGood cs gs k b ∧ m.ad[n + 1]? = some ag ∧ H ag = some (.lst (gs.map V.int)) ∧ FzL m H ac vs ∧ vs = cs.map V.int ∧
      H a = some (.dK [(.inr "cells", .ref ac), (.inr "great", .ref ag), (.inr "spot", .int k)])
  | .aux => True
structure RelS (G : Gx) (m : Mu) (H : Hp) (s : S) : Prop where
  len : m.ad.length = s.length
  nd : m.ad.Nodup
  dom : ∀ a ∈ m.ad, H a ≠ none
  hdom : ∀ a ∈ m.hid, a ∉ m.ad ∧ H a ≠ none
  cell : ∀ n c, s[n]? = some c → ∃ a, m.ad[n]? = some a ∧ RelC G m H n a c
  orc : ∀ n b, s[n]? = some (.orc b) → s[n + 1]? = some .aux
def RelE (G : Gx) (m : Mu) (H : Hp) (r : Lv) (σ : L2.St) : Prop :=
  r.length = σ.length ∧ ∀ (i : Nat) (w : W), r[i]? = some (some w) → ∃ v, σ[i]? = some (some v) ∧ RelW G m H w v
theorem RelE.ext {G : Gx} {m m' : Mu} {H H' : Hp} (e : Ext m H m' H') {r : Lv} {σ : L2.St} (h : RelE G m H r σ) : RelE G m' H' r σ :=
  ⟨h.1, fun i w q => let ⟨v, h1, h2⟩ := h.2 i w q; ⟨v, h1, h2.ext e⟩⟩
theorem RelE.set {G : Gx} {m : Mu} {H : Hp} {r : Lv} {σ : L2.St} (h : RelE G m H r σ) {i : Nat} {w : W} {v : V} (k : RelW G m H w v) : RelE G m H (r.set i (some w)) (σ.set i (some v)) := by
  refine ⟨by simp [h.1], fun j u q => ?_⟩
  by_cases hj : i = j
  · subst hj
    have hl : i < r.length := by
      have := (List.getElem?_eq_some_iff.mp q).1
      simpa using this
    rw [List.getElem?_set_self hl] at q
    cases q
    exact ⟨v, by rw [List.getElem?_set_self (by rw [← h.1]; exact hl)], k⟩
  · rw [List.getElem?_set_ne hj] at q
    obtain ⟨v', h1, h2⟩ := h.2 j u q
    exact ⟨v', by rw [List.getElem?_set_ne hj]; exact h1, h2⟩
theorem RelE.unset {G : Gx} {m : Mu} {H : Hp} {r : Lv} {σ : L2.St} (h : RelE G m H r σ) (i : Nat) : RelE G m H (r.set i none) (σ.set i none) := by
  refine ⟨by simp [h.1], fun j u q => ?_⟩
  by_cases hj : i = j
  · subst hj
    have hl : i < r.length := by
      have := (List.getElem?_eq_some_iff.mp q).1
      simpa using this
    rw [List.getElem?_set_self hl] at q
    cases q
  · rw [List.getElem?_set_ne hj] at q
    obtain ⟨v', h1, h2⟩ := h.2 j u q
    exact ⟨v', by rw [List.getElem?_set_ne hj]; exact h1, h2⟩

theorem RelC.keeps {G : Gx} {m m' : Mu} {H H' : Hp} (e : Keeps m H m' H') {n : Nat} {a : Addr} {c : Cell} (h : RelC G m H n a c) (ha : H' a = H a)
    (hn : ∀ b ag, c = .orc b → m.ad[n + 1]? = some ag → H' ag = H ag) : RelC G m' H' n a c := by
  cases c with
  | lst xs => obtain ⟨vs, h1, h2⟩ := h; exact ⟨vs, ha.trans h1, h2.keeps e⟩
  | dct xs => obtain ⟨vs, h1, h2⟩ := h; exact ⟨vs, ha.trans h1, h2.keeps e⟩
  | ins c fs => obtain ⟨C, dx, vs, h0, h1, h2⟩ := h; exact ⟨C, dx, vs, h0, ha.trans h1, h2.keeps e⟩
  | orc b =>
    obtain ⟨cs, gs, k, ag, ac, vs, g, h1, h2, h3, h4, h5⟩ := h
    exact ⟨cs, gs, k, ag, ac, vs, g, e.at' _ _ h1, (hn b ag rfl h1).trans h2, h3.keeps e, h4, ha.trans h5⟩
  | aux => trivial
theorem RelC.ext {G : Gx} {m m' : Mu} {H H' : Hp} (e : Ext m H m' H') {n : Nat} {a : Addr} {c : Cell} (h : RelC G m H n a c) (ha : H' a = H a)
    (hn : ∀ b ag, c = .orc b → m.ad[n + 1]? = some ag → H' ag = H ag) : RelC G m' H' n a c := h.keeps e.keeps ha hn
theorem Ext.alloc {m : Mu} {H : Hp} {p : Addr} {o : HO} (hp : H p = none) : Ext m H (m.push p) (upd H p o) := by
  refine ⟨⟨[p], rfl, fun q hq => by simp at hq; subst hq; exact hp⟩, ⟨[], by simp [Mu.push]⟩, fun a u _ h => ?_, fun a h => ?_⟩
  · rw [upd_ne (ne_of_none h hp)]; exact h
  · by_cases e : a = p
    · subst e; exact absurd hp h
    · rw [upd_ne e]; exact h
/-- a thing beside the cells -/
theorem Ext.aside {m : Mu} {H : Hp} {p : Addr} {o : HO} (hp : H p = none) : Ext m H m (upd H p o) := by
  refine ⟨⟨[], by simp⟩, ⟨[], by simp⟩, fun a u _ h => ?_, fun a h => ?_⟩
  · rw [upd_ne (ne_of_none h hp)]; exact h
  · by_cases e : a = p
    · subst e; exact absurd hp h
    · rw [upd_ne e]; exact h
/-- a thing beside the cells, hidden -/
theorem Ext.hide {m : Mu} {H : Hp} {p : Addr} {o : HO} (hp : H p = none) : Ext m H ⟨m.ad, p :: m.hid⟩ (upd H p o) := by
  refine ⟨⟨[], by simp⟩, ⟨[p], rfl, fun q hq => by simp at hq; subst hq; exact hp⟩, fun a u _ h => ?_, fun a h => ?_⟩
  · rw [upd_ne (ne_of_none h hp)]; exact h
  · by_cases e : a = p
    · subst e; exact absurd hp h
    · rw [upd_ne e]; exact h
theorem Ext.write {m : Mu} {H : Hp} {a : Addr} {o : HO} (ha : a ∈ m.ad) : Ext m H m (upd H a o) := by
  refine ⟨⟨[], by simp⟩, ⟨[], by simp⟩, fun b u hb h => ?_, fun b h => ?_⟩
  · rw [upd_ne (fun z => hb (by rw [z]; exact ha))]; exact h
  · by_cases e : b = a
    · subst e; rw [upd_same]; exact fun z => by cases z
    · rw [upd_ne e]; exact h
/-- the hidden thing changes -/
theorem Keeps.grow {m : Mu} {H : Hp} {p : Addr} {o : HO} (hp : p ∈ m.hid) : Keeps m H m (upd H p o) :=
  ⟨fun _ _ h => h, fun a u h1 h2 h3 => ⟨h1, h2, by rw [upd_ne (fun z => h2 (by rw [z]; exact hp))]; exact h3⟩⟩
theorem Ext.grow {m m' : Mu} {H H' : Hp} {p : Addr} {o : HO} (e : Ext m H m' H') (hp : H p = none) : Ext m H m' (upd H' p o) := by
  refine ⟨e.ex, e.hx, fun a u ha h => ?_, fun a h => ?_⟩
  · rw [upd_ne (ne_of_none h hp)]; exact e.keep a u ha h
  · by_cases z : a = p
    · subst z; exact absurd hp h
    · rw [upd_ne z]; exact e.dom a h
theorem RelS.hide {G : Gx} {m : Mu} {H : Hp} {s : S} (h : RelS G m H s) {p : Addr} {o : HO} (hp : H p = none) : RelS G ⟨m.ad, p :: m.hid⟩ (upd H p o) s := by
  have hm : ∀ a ∈ m.ad, a ≠ p := fun a ha z => h.dom a ha (by rw [z]; exact hp)
  refine ⟨h.len, h.nd, fun a ha => by rw [upd_ne (hm a ha)]; exact h.dom a ha, fun a ha => ?_, fun n c e => ?_, h.orc⟩
  · rcases List.mem_cons.mp ha with rfl | ha
    · exact ⟨fun z => hm a z rfl, by rw [upd_same]; exact fun z => by cases z⟩
    · exact ⟨(h.hdom a ha).1, (Ext.aside (m := m) (o := o) hp).dom a (h.hdom a ha).2⟩
  · obtain ⟨a, ha, k⟩ := h.cell n c e
    have am := List.mem_of_getElem? ha
    exact ⟨a, ha, k.ext (Ext.hide hp) (upd_ne (hm a am)) fun b ag _ q => upd_ne (hm ag (List.mem_of_getElem? q))⟩
theorem RelS.grow {G : Gx} {m : Mu} {H : Hp} {s : S} (h : RelS G m H s) {p : Addr} {o : HO} (hp : p ∈ m.hid) : RelS G m (upd H p o) s := by
  have hm : ∀ a ∈ m.ad, a ≠ p := fun a ha z => (h.hdom p hp).1 (by rw [← z]; exact ha)
  refine ⟨h.len, h.nd, fun a ha => by rw [upd_ne (hm a ha)]; exact h.dom a ha, fun a ha => ⟨(h.hdom a ha).1, ?_⟩, fun n c e => ?_, h.orc⟩
  · by_cases z : a = p
    · subst z; rw [upd_same]; exact fun z => by cases z
    · rw [upd_ne z]; exact (h.hdom a ha).2
  · obtain ⟨a, ha, k⟩ := h.cell n c e
    have am := List.mem_of_getElem? ha
    exact ⟨a, ha, k.keeps (Keeps.grow hp) (upd_ne (hm a am)) fun b ag _ q => upd_ne (hm ag (List.mem_of_getElem? q))⟩
/-- hidden things come into the open -/
theorem Keeps.show_ {m : Mu} {H : Hp} {l : List Addr} (hl : ∀ a ∈ l, a ∈ m.hid) : Keeps m H ⟨m.ad, l⟩ H := ⟨fun _ _ h => h, fun a u h1 h2 h3 => ⟨h1, fun z => h2 (hl a z), h3⟩⟩
theorem RelS.show_ {G : Gx} {m : Mu} {H : Hp} {s : S} (h : RelS G m H s) {l : List Addr} (hl : ∀ a ∈ l, a ∈ m.hid) : RelS G ⟨m.ad, l⟩ H s :=
  ⟨h.len, h.nd, h.dom, fun a ha => h.hdom a (hl a ha), fun n c e => by
    obtain ⟨a, ha, k⟩ := h.cell n c e
    exact ⟨a, ha, k.keeps (Keeps.show_ hl) rfl fun _ _ _ _ => rfl⟩, h.orc⟩
theorem Ext.show_ {m m' : Mu} {H H' : Hp} (e : Ext m H m' H') : Ext m H ⟨m'.ad, m.hid⟩ H' := ⟨e.ex, ⟨[], by simp⟩, e.keep, e.dom⟩
theorem RelS.addr {G : Gx} {m : Mu} {H : Hp} {s : S} (h : RelS G m H s) {n : Nat} {a : Addr} (e : m.ad[n]? = some a) : ∃ c, s[n]? = some c ∧ RelC G m H n a c := by
  have hl := (List.getElem?_eq_some_iff.mp e).1
  rw [h.len] at hl
  obtain ⟨b, hb, k⟩ := h.cell n _ (List.getElem?_eq_getElem hl)
  rw [e] at hb; cases hb
  exact ⟨_, List.getElem?_eq_getElem hl, k⟩
theorem RelS.aside {G : Gx} {m : Mu} {H : Hp} {s : S} (h : RelS G m H s) {p : Addr} {o : HO} (hp : H p = none) : RelS G m (upd H p o) s := by
  have hm : ∀ a ∈ m.ad, a ≠ p := fun a ha z => h.dom a ha (by rw [z]; exact hp)
  refine ⟨h.len, h.nd, fun a ha => by rw [upd_ne (hm a ha)]; exact h.dom a ha, fun a ha => ⟨(h.hdom a ha).1, (Ext.aside (m := m) (o := o) hp).dom a (h.hdom a ha).2⟩, fun n c e => ?_, h.orc⟩
  obtain ⟨a, ha, k⟩ := h.cell n c e
  have am := List.mem_of_getElem? ha
  exact ⟨a, ha, k.ext (Ext.aside hp) (upd_ne (hm a am)) fun b ag _ q => upd_ne (hm ag (List.mem_of_getElem? q))⟩
theorem RelS.alloc {G : Gx} {m : Mu} {H : Hp} {s : S} (h : RelS G m H s) {p : Addr} {o : HO} {c : Cell} (hp : H p = none) (hc : RelC G (m.push p) (upd H p o) s.length p c)
    (hno : (∀ b, c ≠ .orc b)) : RelS G (m.push p) (upd H p o) (s ++ [c]) := by
  have hlast : ∀ (n : Nat) (b : Nat), s[n]? = some (.orc b) → n + 1 < s.length := fun n b q => (List.getElem?_eq_some_iff.mp (h.orc n b q)).1
  have hm : ∀ a ∈ m.ad, a ≠ p := fun a ha z => h.dom a ha (by rw [z]; exact hp)
  have hl : ∀ {i : Nat} {d : Cell}, (s ++ [c])[i]? = some d → s[i]? = some d ∨ (i = s.length ∧ d = c) := fun {i d} q => by
    by_cases hi : i < s.length
    · rw [List.getElem?_append_left hi] at q; exact .inl q
    · rw [List.getElem?_append_right (by omega)] at q
      have : i - s.length = 0 := by
        have := (List.getElem?_eq_some_iff.mp q).1
        simp at this; omega
      rw [this] at q
      simp at q
      exact .inr ⟨by omega, q.symm⟩
  refine ⟨by simp [h.len, Mu.push], ?_, fun a ha => ?_, fun a ha => ⟨fun z => ?_, (Ext.aside (m := m) (o := o) hp).dom a (h.hdom a ha).2⟩, fun n d e => ?_, fun n b e => ?_⟩
  · show (m.ad ++ [p]).Nodup
    rw [List.nodup_append]
    exact ⟨h.nd, by simp, fun a ha b hb => by simp at hb; subst hb; exact hm a ha⟩
  · rcases List.mem_append.mp ha with ha | ha
    · rw [upd_ne (hm a ha)]; exact h.dom a ha
    · simp at ha; subst ha; rw [upd_same]; exact fun z => by cases z
  · rcases List.mem_append.mp z with z | z
    · exact (h.hdom a ha).1 z
    · simp at z; subst z; exact (h.hdom a ha).2 hp
  · rcases hl e with q | ⟨rfl, rfl⟩
    · obtain ⟨a, ha, k⟩ := h.cell n d q
      have am := List.mem_of_getElem? ha
      exact ⟨a, (Ext.alloc (o := o) hp).at ha, k.ext (Ext.alloc hp) (upd_ne (hm a am)) fun b ag _ q => upd_ne (hm ag (List.mem_of_getElem? q))⟩
    · exact ⟨p, by rw [← h.len]; simp [Mu.push], hc⟩
  · rcases hl e with q | ⟨rfl, z⟩
    · rw [List.getElem?_append_left (hlast n b q)]; exact h.orc n b q
    · exact absurd z.symm (hno b)
theorem nodup_at {m : List Addr} (nd : m.Nodup) {i j : Nat} {a : Addr} (h1 : m[i]? = some a) (h2 : m[j]? = some a) : i = j := by
  obtain ⟨p1, e1⟩ := List.getElem?_eq_some_iff.mp h1
  obtain ⟨p2, e2⟩ := List.getElem?_eq_some_iff.mp h2
  exact (List.getElem_inj nd).mp (e1.trans e2.symm)
theorem RelS.write {G : Gx} {m : Mu} {H : Hp} {s : S} (h : RelS G m H s) {n : Nat} {a : Addr} {o : HO} {c c' : Cell} (ha : m.ad[n]? = some a) (h0 : s[n]? = some c) (hx : c ≠ .aux) (hb : ∀ b, c ≠ .orc b) (hb' : ∀ b, c' ≠ .orc b) (hc : RelC G m (upd H a o) n a c') :
    RelS G m (upd H a o) (s.set n c') := by
  have am := List.mem_of_getElem? ha
  have hlt : n < s.length := (List.getElem?_eq_some_iff.mp h0).1
  refine ⟨by simp [h.len], h.nd, fun b hb => (Ext.write (m := m) (o := o) am).dom b (h.dom b hb), fun b hb => ⟨(h.hdom b hb).1, (Ext.write (m := m) (o := o) am).dom b (h.hdom b hb).2⟩, fun k d e => ?_, fun k b e => ?_⟩
  · by_cases hk : n = k
    · subst hk
      rw [List.getElem?_set_self hlt] at e
      cases e
      exact ⟨a, ha, hc⟩
    · rw [List.getElem?_set_ne hk] at e
      obtain ⟨b, hb1, q⟩ := h.cell k d e
      refine ⟨b, hb1, q.ext (Ext.write am) (upd_ne fun z => ?_) fun b' ag z hg => upd_ne fun z2 => ?_⟩
      · rw [z] at hb1; exact hk (nodup_at h.nd ha hb1)
      · subst z
        rw [z2] at hg
        have : n = k + 1 := nodup_at h.nd ha hg
        have := h.orc k b' e
        rw [← ‹n = k + 1›, h0] at this
        cases this
        exact hx rfl
  · by_cases hk : n = k
    · subst hk
      rw [List.getElem?_set_self hlt] at e
      cases e
      exact absurd rfl (hb' b)
    · rw [List.getElem?_set_ne hk] at e
      have q := h.orc k b e
      by_cases hk1 : n = k + 1
      · subst hk1
        rw [h0] at q; cases q
        exact absurd rfl hx
      · rw [List.getElem?_set_ne hk1]; exact q
end Fw

set_option maxRecDepth 100000
set_option maxHeartbeats 4000000
namespace Fw
open PySem PySem.Spec PyProof.Rows L2

/-! ## meanings -/
abbrev QW := W → S → Prop
abbrev QX := Str → Fl → S → Prop
/-- an expression, a test, a list of arguments, a statement -/
abbrev ET := Lv → S → QW → QX → Prop
abbrev BT := Lv → S → (Bool → S → Prop) → QX → Prop
abbrev LT := Lv → S → (List W → S → Prop) → QX → Prop
structure Cn where
  nx : Lv → S → Prop
  rt : W → S → Prop
  bk : Lv → S → Prop
  ct : Lv → S → Prop
  ex : Str → Fl → Lv → S → Prop
abbrev ST := Lv → S → Cn → Prop

def Kq (G : Gx) (m : Mu) (H : Hp) (q : QW) (Q : VK) : Prop := ∀ w s', q w s' → ∀ m' H' v, Ext m H m' H' → RelS G m' H' s' → RelW G m' H' w v → Q v H'
def Kb (G : Gx) (m : Mu) (H : Hp) (q : Bool → S → Prop) (Q : Bool → Hp → Prop) : Prop := ∀ b s', q b s' → ∀ m' H', Ext m H m' H' → RelS G m' H' s' → Q b H'
def Kl (G : Gx) (m : Mu) (H : Hp) (q : List W → S → Prop) (Q : List V → Hp → Prop) : Prop := ∀ w s', q w s' → ∀ m' H' v, Ext m H m' H' → RelS G m' H' s' → RelWs G m' H' w v → Q v H'
def Kx (G : Gx) (m : Mu) (H : Hp) (E : XK) (e : QX) : Prop := ∀ c fs s', e c fs s' → ∀ m' H' C d fvs, Ext m H m' H' → RelS G m' H' s' → G.mg c = some (.ref C) → H' d = some (.xd fvs) → RelF G m' H' fs fvs → E (.ref C) (some d) H'
def Kn (G : Gx) (m : Mu) (H : Hp) (q : Lv → S → Prop) (Q : L2.St → Hp → Prop) : Prop := ∀ r s', q r s' → ∀ m' H' σ', Ext m H m' H' → RelS G m' H' s' → RelE G m' H' r σ' → Q σ' H'
def Ke (G : Gx) (m : Mu) (H : Hp) (Wx : WX) (e : Str → Fl → Lv → S → Prop) : Prop := ∀ c fs r s', e c fs r s' → ∀ m' H' σ' C d fvs, Ext m H m' H' → RelS G m' H' s' → RelE G m' H' r σ' → G.mg c = some (.ref C) → H' d = some (.xd fvs) → RelF G m' H' fs fvs → Wx (.ref C) (some d) σ' H'
section
variable {G : Gx} {m m' : Mu} {H H' : Hp} {Wx : WX}
theorem Kq.ext {q : QW} {Q : VK} (h : Kq G m H q Q) (e : Ext m H m' H') : Kq G m' H' q Q := fun w s k m2 H2 v e2 => h w s k m2 H2 v (e.trans e2)
theorem Kb.ext {q : Bool → S → Prop} {Q : Bool → Hp → Prop} (h : Kb G m H q Q) (e : Ext m H m' H') : Kb G m' H' q Q := fun w s k m2 H2 e2 => h w s k m2 H2 (e.trans e2)
theorem Kl.ext {q : List W → S → Prop} {Q : List V → Hp → Prop} (h : Kl G m H q Q) (e : Ext m H m' H') : Kl G m' H' q Q := fun w s k m2 H2 v e2 => h w s k m2 H2 v (e.trans e2)
theorem Kx.ext {E : XK} {q : QX} (h : Kx G m H E q) (e : Ext m H m' H') : Kx G m' H' E q := fun c fs s k m2 H2 C d fv e2 => h c fs s k m2 H2 C d fv (e.trans e2)
theorem Kn.ext {q : Lv → S → Prop} {Q : L2.St → Hp → Prop} (h : Kn G m H q Q) (e : Ext m H m' H') : Kn G m' H' q Q := fun r s k m2 H2 v e2 => h r s k m2 H2 v (e.trans e2)
theorem Ke.ext {q : Str → Fl → Lv → S → Prop} (h : Ke G m H Wx q) (e : Ext m H m' H') : Ke G m' H' Wx q := fun c fs r s k m2 H2 v C d fv e2 => h c fs r s k m2 H2 v C d fv (e.trans e2)
end

def tE (G : Gx) (Wx : WX) (t : ET) : TE := fun σ H Q => ∃ r s m q e, RelE G m H r σ ∧ RelS G m H s ∧ t r s q e ∧ Kq G m H q Q ∧ Kx G m H (fun c d H' => Wx c d σ H') e
def tB (G : Gx) (Wx : WX) (t : BT) : TT := fun σ H Q => ∃ r s m q e, RelE G m H r σ ∧ RelS G m H s ∧ t r s q e ∧ Kb G m H q Q ∧ Kx G m H (fun c d H' => Wx c d σ H') e
def tL (G : Gx) (Wx : WX) (t : LT) : TA := fun σ H Q => ∃ r s m q e, RelE G m H r σ ∧ RelS G m H s ∧ t r s q e ∧ Kl G m H q Q ∧ Kx G m H (fun c d H' => Wx c d σ H') e
/-- the ends of a statement -/
structure Kc (G : Gx) (m : Mu) (H : Hp) (Wx : WX) (c : Cn) (D : Ends) : Prop where
  nx : Kn G m H c.nx D.nx
  rt : Kq G m H c.rt D.rt
  bk : Kn G m H c.bk D.bk
  ct : Kn G m H c.ct D.ct
  ex : Ke G m H Wx c.ex
theorem Kc.ext {G : Gx} {m m' : Mu} {H H' : Hp} {Wx : WX} {c : Cn} {D : Ends} (h : Kc G m H Wx c D) (e : Ext m H m' H') : Kc G m' H' Wx c D := ⟨h.nx.ext e, h.rt.ext e, h.bk.ext e, h.ct.ext e, h.ex.ext e⟩
def tS (G : Gx) (Wx : WX) (t : ST) : TS := fun D σ H => ∃ r s m c, RelE G m H r σ ∧ RelS G m H s ∧ t r s c ∧ Kc G m H Wx c D

abbrev DE (X : Cx) (Wx : WX) (e : Expr) (t : ET) : Prop := PE X e (tE (gx X) Wx t)
abbrev DB (X : Cx) (Wx : WX) (e : Expr) (t : BT) : Prop := PT X e (tB (gx X) Wx t)
abbrev DW (X : Cx) (Wx : WX) (e : Expr) (t : BT) : Prop := PW X e (tB (gx X) Wx t)
abbrev DA (X : Cx) (Wx : WX) (es : List Expr) (t : LT) : Prop := PA X es (tL (gx X) Wx t)
abbrev DS (X : Cx) (Wx : WX) (st : Stmt) (t : ST) : Prop := PS X st (tS (gx X) Wx t)
abbrev DSs (X : Cx) (Wx : WX) (st : List Stmt) (t : ST) : Prop := PSs X st (tS (gx X) Wx t)
section
variable {X : Cx} {Wx : WX}
theorem pe_imp {e : Expr} {t u : TE} (h : PE X e t) (k : ∀ σ H Q, u σ H Q → t σ H Q) : PE X e u := ⟨fun p s σ H Q I q => h.run p s σ H Q I (k σ H Q q)⟩
theorem pt_imp {e : Expr} {t u : TT} (h : PT X e t) (k : ∀ σ H Q, u σ H Q → t σ H Q) : PT X e u := ⟨fun p s σ H Q I q => h.run p s σ H Q I (k σ H Q q)⟩
theorem pw_imp {e : Expr} {t u : TT} (h : PW X e t) (k : ∀ σ H Q, u σ H Q → t σ H Q) : PW X e u := ⟨fun wh p s σ H Q I q => h.run wh p s σ H Q I (k σ H Q q)⟩
theorem pa_imp {es : List Expr} {t u : TA} (h : PA X es t) (k : ∀ σ H Q, u σ H Q → t σ H Q) : PA X es u := ⟨fun po p s σ H Q I q => h.run po p s σ H Q I (k σ H Q q)⟩
theorem ps_imp {st : Stmt} {t u : TS} (h : PS X st t) (k : ∀ D σ H, u D σ H → t D σ H) : PS X st u := ⟨fun p s σ H D I q => h.run p s σ H D I (k D σ H q)⟩
theorem pss_imp {st : List Stmt} {t u : TS} (h : PSs X st t) (k : ∀ D σ H, u D σ H → t D σ H) : PSs X st u := ⟨fun p s σ H D I q => h.run p s σ H D I (k D σ H q)⟩
end

/-! ## names, constants -/
section
variable {X : Cx} {Wx : WX} {pos : Pos}
def mVar (i : Nat) : ET := fun r s q _ => match r[i]? with
  | some (some w) => q w s
  | _ => False
def mK (w : W) : ET := fun _ s q _ => q w s
theorem de_var (i : Nat) {x : Str} (hN : X.N[i]? = some x := by rfl) (hv : Vis X.env.scope x := by first | exact Or.inl rfl | exact Or.inr (Or.inl rfl) | exact Or.inr (Or.inr rfl)) (hd : (x == ("__debug__" : Str)) = false := by decide)
    (hcd : (x == ("__classdict__" : Str)) = false := by decide) : DE X Wx (.Name x pos) (mVar i) := by
  refine pe_imp (pv i hN hv hd hcd) fun σ H Q ⟨r, s, m, q, e, hE, hS, h, hq, _⟩ => ?_
  unfold mVar at h
  split at h
  · rename_i w hw
    obtain ⟨v, h1, h2⟩ := hE.2 i w hw
    exact ⟨v, h1, hq w s h m H v .refl hS h2⟩
  · exact h.elim
/-- a value that leans on no heap -/
def Solid : W → V → Prop
  | .non, v => v = .non
  | .bl b, v => v = .bl b
  | .int i, v => v = .int i
  | .str x, v => v = .str x
  | _, _ => False
theorem Solid.rel {G : Gx} {m : Mu} {H : Hp} : ∀ {w : W} {v : V}, Solid w v → RelW G m H w v
  | .non, _, h => by simp only [RelW]; exact h
  | .bl _, _, h => by simp only [RelW]; exact h
  | .int _, _, h => by simp only [RelW]; exact h
  | .str _, _, h => by simp only [RelW]; exact h
  | .tup _, _, h => h.elim
  | .lst _, _, h => h.elim
  | .ref _, _, h => h.elim
  | .scr _, _, h => h.elim
theorem de_K {e : Expr} {w : W} {v : V} (h : PE X e (tC v)) (k : Solid w v) : DE X Wx e (mK w) :=
  pe_imp h fun σ H Q ⟨r, s, m, q, e, hE, hS, h, hq, _⟩ => hq w s h m H v .refl hS k.rel
theorem de_int {i : Int} {j} : DE X Wx (.Constant (.int i) j pos) (mK (.int i)) := de_K pe_int rfl
theorem de_bl {b : Bool} {j} : DE X Wx (.Constant (.bool b) j pos) (mK (.bl b)) := de_K pe_bl rfl
theorem de_non {j} : DE X Wx (.Constant .none j pos) (mK .non) := de_K pe_non rfl
theorem de_str {x : Str} {j} : DE X Wx (.Constant (.str x) j pos) (mK (.str x)) := de_K pe_str rfl
/-- a number of the module -/
theorem de_gint {x : Str} {i : Int} {t : Tok} (hm : X.mg x = some (.int i t)) (hg : Gl X x := by rfl) (hd : (x == ("__debug__" : Str)) = false := by decide) : DE X Wx (.Name x pos) (mK (.int i)) :=
  de_K (v := .int i) (pe_glob hg hm ⟨t, rfl⟩ hd) rfl
theorem de_gstr {x y : Str} {t : Tok} (hm : X.mg x = some (.str y t)) (hg : Gl X x := by rfl) (hd : (x == ("__debug__" : Str)) = false := by decide) : DE X Wx (.Name x pos) (mK (.str y)) :=
  de_K (v := .str y) (pe_glob hg hm ⟨t, rfl⟩ hd) rfl
end

/-! ## arguments -/
section
variable {X : Cx} {Wx : WX} {e : Expr} {es : List Expr} {ta : ET} {tr : LT}
def mNil : LT := fun _ s q _ => q [] s
def mCons (ta : ET) (tr : LT) : LT := fun r s q e => ta r s (fun w s1 => tr r s1 (fun ws s2 => q (w :: ws) s2) e) e
theorem da_nil : DA X Wx [] mNil := pa_imp pa_nil fun σ H Q ⟨r, s, m, q, e, hE, hS, h, hq, _⟩ => hq [] s h m H [] .refl hS .nil
theorem da_cons (ha : DE X Wx e ta) (hr : DA X Wx es tr) (hs : starEach (e :: es) X.env = (false, eval e X.env) :: starEach es X.env := by rfl) : DA X Wx (e :: es) (mCons ta tr) := by
  refine pa_imp (pa_cons ha hr hs) fun σ H Q ⟨r, s, m, q, e, hE, hS, h, hq, hx⟩ => ?_
  refine ⟨r, s, m, _, e, hE, hS, h, fun w s1 k m1 H1 v e1 hS1 hv => ?_, hx⟩
  refine ⟨r, s1, m1, _, e, hE.ext e1, hS1, k, fun ws s2 k2 m2 H2 vs e2 hS2 hvs => ?_, hx.ext e1⟩
  exact hq _ s2 k2 m2 H2 _ (e1.trans e2) hS2 (.cons (hv.ext e2) hvs)
end

/-! ## operations on values -/
/-- a two-place operation of ours speaks for a reading r -/
abbrev O2 := W → W → S → QW → Prop
def S2 (G : Gx) (r : R2) (op : O2) : Prop := ∀ m H s x y a b q Q, RelS G m H s → RelW G m H a x → RelW G m H b y → op a b s q → Kq G m H q Q → r x y H Q
abbrev O1 := W → S → QW → Prop
def S1 (G : Gx) (r : V → Hp → VK → Prop) (op : O1) : Prop := ∀ m H s x a q Q, RelS G m H s → RelW G m H a x → op a s q → Kq G m H q Q → r x H Q
abbrev ON := List W → S → QW → Prop
def SN (G : Gx) (r : List V → Hp → VK → Prop) (op : ON) : Prop := ∀ m H s xs ws q Q, RelS G m H s → RelWs G m H ws xs → op ws s q → Kq G m H q Q → r xs H Q
section
variable {X : Cx} {Wx : WX} {a b c : Expr} {ta tb tc : ET} {pos : Pos} {op op' : O2} {r r' : R2}
def mBin (op : O2) (ta tb : ET) : ET := fun r s q e => ta r s (fun x s1 => tb r s1 (fun y s2 => op x y s2 q) e) e
def mUn (op : O1) (ta : ET) : ET := fun r s q e => ta r s (fun x s1 => op x s1 q) e
def mFn (op : ON) (t : LT) : ET := fun r s q e => t r s (fun ws s1 => op ws s1 q) e
theorem tE_bin (hs : S2 (gx X) r op) : ∀ σ H Q, tE (gx X) Wx (mBin op ta tb) σ H Q → tOp r (tE (gx X) Wx ta) (tE (gx X) Wx tb) σ H Q := by
  intro σ H Q ⟨r, s, m, q, e, hE, hS, h, hq, hx⟩
  refine ⟨r, s, m, _, e, hE, hS, h, fun w s1 k m1 H1 v e1 hS1 hv => ?_, hx⟩
  refine ⟨r, s1, m1, _, e, hE.ext e1, hS1, k, fun w2 s2 k2 m2 H2 v2 e2 hS2 hv2 => ?_, hx.ext e1⟩
  exact hs m2 H2 s2 v v2 w w2 q Q hS2 (hv.ext e2) hv2 k2 (hq.ext (e1.trans e2))
theorem de_bin {o : Operator} (ho : OpR X (binaryOp o) r) (hs : S2 (gx X) r op) (ha : DE X Wx a ta) (hb : DE X Wx b tb) : DE X Wx (.BinOp a o b pos) (mBin op ta tb) := pe_imp (pe_op ho ha hb) (tE_bin hs)
theorem de_un {o : UnaryOp} {r : V → Hp → VK → Prop} {op : O1} (ho : UnR X (unaryOp o) r) (hs : S1 (gx X) r op) (ha : DE X Wx a ta) : DE X Wx (.UnaryOp o a pos) (mUn op ta) := by
  refine pe_imp (pe_un ho ha) fun σ H Q ⟨r, s, m, q, e, hE, hS, h, hq, hx⟩ => ?_
  exact ⟨r, s, m, _, e, hE, hS, h, fun w s1 k m1 H1 v e1 hS1 hv => hs m1 H1 s1 v w q Q hS1 hv k (hq.ext e1), hx⟩
theorem de_cmp {o : CmpOp} (ho : OpR X (compareOp o) r) (hs : S2 (gx X) r op) (ha : DE X Wx a ta) (hb : DE X Wx b tb) (hm : behindInMarks o b = false := by first | exact nomark _ | with_unfolding_all rfl) : DE X Wx (.Compare a [o] [b] pos) (mBin op ta tb) := pe_imp (pe_cmpR ho ha hb hm) (tE_bin hs)
/-- a value as a test: it is a bool -/
def mT (t : ET) : BT := fun r s q e => t r s (fun w s1 => match w with
  | .bl b => q b s1
  | _ => False) e
theorem tB_T : ∀ σ H Q, tB (gx X) Wx (mT ta) σ H Q → tTest (tE (gx X) Wx ta) σ H Q := by
  intro σ H Q ⟨r, s, m, q, e, hE, hS, h, hq, hx⟩
  refine ⟨r, s, m, _, e, hE, hS, h, fun w s1 k m1 H1 v e1 hS1 hv => ?_, hx⟩
  cases w with
  | bl b => simp only [RelW] at hv; exact ⟨b, hv, hq b s1 k m1 H1 e1 hS1⟩
  | _ => exact k.elim
theorem tTest_imp {t u : TE} (k : ∀ σ H Q, u σ H Q → t σ H Q) : ∀ σ H Q, tTest u σ H Q → tTest t σ H Q := fun σ H Q h => k σ H _ h
theorem db_cmp {o : CmpOp} (ho : OpR X (compareOp o) r) (hs : S2 (gx X) r op) (ha : DE X Wx a ta) (hb : DE X Wx b tb) (hm : behindInMarks o b = false := by first | exact nomark _ | with_unfolding_all rfl) : DB X Wx (.Compare a [o] [b] pos) (mT (mBin op ta tb)) :=
  pt_imp (pt_cmpR ho ha hb hm) fun σ H Q h => tTest_imp (tE_bin hs) σ H Q (tB_T σ H Q h)
/-- a op b op' c -/
def mChain (op op' : O2) (ta tb tc : ET) : ET := fun r s q e => ta r s (fun x s1 => tb r s1 (fun y s2 => op x y s2 (fun z s3 => match z with
  | .bl k => if k = true then tc r s3 (fun u s4 => op' y u s4 q) e else q (.bl false) s3
  | _ => False)) e) e
theorem tE_chain (hs : S2 (gx X) r op) (hs' : S2 (gx X) r' op') : ∀ σ H Q, tE (gx X) Wx (mChain op op' ta tb tc) σ H Q → tChain r r' (tE (gx X) Wx ta) (tE (gx X) Wx tb) (tE (gx X) Wx tc) σ H Q := by
  intro σ H Q ⟨r, s, m, q, e, hE, hS, h, hq, hx⟩
  refine ⟨r, s, m, _, e, hE, hS, h, fun w s1 k m1 H1 v e1 hS1 hv => ?_, hx⟩
  refine ⟨r, s1, m1, _, e, hE.ext e1, hS1, k, fun w2 s2 k2 m2 H2 v2 e2 hS2 hv2 => ?_, hx.ext e1⟩
  refine hs m2 H2 s2 v v2 w w2 _ _ hS2 (hv.ext e2) hv2 k2 fun w3 s3 k3 m3 H3 v3 e3 hS3 hv3 => ?_
  cases w3 with
  | bl b =>
    simp only [RelW] at hv3
    refine ⟨b, hv3, ?_⟩
    cases b with
    | true =>
      refine iteT ?_
      have k3' := k3
      simp only [if_true] at k3'
      refine ⟨r, s3, m3, _, e, hE.ext ((e1.trans e2).trans e3), hS3, k3', fun w4 s4 k4 m4 H4 v4 e4 hS4 hv4 => ?_, hx.ext ((e1.trans e2).trans e3)⟩
      exact hs' m4 H4 s4 v2 v4 w2 w4 q Q hS4 ((hv2.ext e3).ext e4) hv4 k4 (hq.ext (((e1.trans e2).trans e3).trans e4))
    | false =>
      refine iteF ?_
      exact hq _ s3 (by simpa using k3) m3 H3 _ ((e1.trans e2).trans e3) hS3 (by simp only [RelW])
  | _ => exact k3.elim
theorem de_chain {o o' : CmpOp} (ho : OpR X (compareOp o) r) (ho' : OpR X (compareOp o') r') (hs : S2 (gx X) r op) (hs' : S2 (gx X) r' op') (ha : DE X Wx a ta) (hb : DE X Wx b tb) (hc : DE X Wx c tc)
    (hm : lastMarks [o, o'] [b, c] = false := by rfl) : DE X Wx (.Compare a [o, o'] [b, c] pos) (mChain op op' ta tb tc) := pe_imp (pe_chain ho ho' ha hb hc hm) (tE_chain hs hs')
theorem db_chain {o o' : CmpOp} (ho : OpR X (compareOp o) r) (ho' : OpR X (compareOp o') r') (hs : S2 (gx X) r op) (hs' : S2 (gx X) r' op') (ha : DE X Wx a ta) (hb : DE X Wx b tb) (hc : DE X Wx c tc)
    (hm : lastMarks [o, o'] [b, c] = false := by rfl) : DB X Wx (.Compare a [o, o'] [b, c] pos) (mT (mChain op op' ta tb tc)) :=
  pt_imp (pt_chain ho ho' ha hb hc hm) fun σ H Q h => tTest_imp (tE_chain hs hs') σ H Q (tB_T σ H Q h)
/-- and, or, not of bools -/
def mAnd (ta tb : ET) : ET := fun r s q e => ta r s (fun w s1 => match w with
  | .bl b => if b = true then tb r s1 q e else q (.bl false) s1
  | _ => False) e
def mOr (ta tb : ET) : ET := fun r s q e => ta r s (fun w s1 => match w with
  | .bl b => if b = true then q (.bl true) s1 else tb r s1 q e
  | _ => False) e
def mNot (ta : ET) : ET := fun r s q e => ta r s (fun w s1 => match w with
  | .bl b => q (.bl (!b)) s1
  | _ => False) e
def bAnd (ta tb : BT) : BT := fun r s q e => ta r s (fun b s1 => if b = true then tb r s1 q e else q false s1) e
def bOr (ta tb : BT) : BT := fun r s q e => ta r s (fun b s1 => if b = true then q true s1 else tb r s1 q e) e
def bNot (ta : BT) : BT := fun r s q e => ta r s (fun b s1 => q (!b) s1) e
variable {rest : List Expr} {ba bb bc : BT}
theorem de_one {o} (h : DE X Wx a ta) : DE X Wx (.BoolOp o [a] pos) ta := pe_one h
theorem de_and (ha : DE X Wx a ta) (hb : DE X Wx (.BoolOp .And (b :: rest) pos) tb) : DE X Wx (.BoolOp .And (a :: b :: rest) pos) (mAnd ta tb) := by
  refine pe_imp (pe_and ha hb) fun σ H Q ⟨r, s, m, q, e, hE, hS, h, hq, hx⟩ => ?_
  refine ⟨r, s, m, _, e, hE, hS, h, fun w s1 k m1 H1 v e1 hS1 hv => ?_, hx⟩
  cases w with
  | bl b =>
    simp only [RelW] at hv
    refine ⟨b, hv, ?_⟩
    cases b with
    | true =>
      refine iteT ?_
      exact ⟨r, s1, m1, q, e, hE.ext e1, hS1, by simpa using k, hq.ext e1, hx.ext e1⟩
    | false =>
      refine iteF ?_
      exact hq _ s1 (by simpa using k) m1 H1 _ e1 hS1 (by simp only [RelW])
  | _ => exact k.elim
theorem de_or (ha : DE X Wx a ta) (hb : DE X Wx (.BoolOp .Or (b :: rest) pos) tb) : DE X Wx (.BoolOp .Or (a :: b :: rest) pos) (mOr ta tb) := by
  refine pe_imp (pe_or ha hb) fun σ H Q ⟨r, s, m, q, e, hE, hS, h, hq, hx⟩ => ?_
  refine ⟨r, s, m, _, e, hE, hS, h, fun w s1 k m1 H1 v e1 hS1 hv => ?_, hx⟩
  cases w with
  | bl b =>
    simp only [RelW] at hv
    refine ⟨b, hv, ?_⟩
    cases b with
    | true =>
      refine iteT ?_
      exact hq _ s1 (by simpa using k) m1 H1 _ e1 hS1 (by simp only [RelW])
    | false =>
      refine iteF ?_
      exact ⟨r, s1, m1, q, e, hE.ext e1, hS1, by simpa using k, hq.ext e1, hx.ext e1⟩
  | _ => exact k.elim
theorem de_not (ha : DE X Wx a ta) : DE X Wx (.UnaryOp .Not a pos) (mNot ta) := by
  refine pe_imp (pe_not ha) fun σ H Q ⟨r, s, m, q, e, hE, hS, h, hq, hx⟩ => ?_
  refine ⟨r, s, m, _, e, hE, hS, h, fun w s1 k m1 H1 v e1 hS1 hv => ?_, hx⟩
  cases w with
  | bl b =>
    simp only [RelW] at hv
    exact ⟨b, hv, hq _ s1 k m1 H1 _ e1 hS1 (by simp only [RelW])⟩
  | _ => exact k.elim
theorem tB_and : ∀ σ H Q, tB (gx X) Wx (bAnd ba bb) σ H Q → tAnd (tB (gx X) Wx ba) (tB (gx X) Wx bb) σ H Q := by
  intro σ H Q ⟨r, s, m, q, e, hE, hS, h, hq, hx⟩
  refine ⟨r, s, m, _, e, hE, hS, h, fun b s1 k m1 H1 e1 hS1 => ?_, hx⟩
  cases b with
  | true =>
    refine iteT ?_
    exact ⟨r, s1, m1, q, e, hE.ext e1, hS1, by simpa using k, hq.ext e1, hx.ext e1⟩
  | false =>
    refine iteF ?_
    exact hq _ s1 (by simpa using k) m1 H1 e1 hS1
theorem tB_or : ∀ σ H Q, tB (gx X) Wx (bOr ba bb) σ H Q → tOr (tB (gx X) Wx ba) (tB (gx X) Wx bb) σ H Q := by
  intro σ H Q ⟨r, s, m, q, e, hE, hS, h, hq, hx⟩
  refine ⟨r, s, m, _, e, hE, hS, h, fun b s1 k m1 H1 e1 hS1 => ?_, hx⟩
  cases b with
  | true =>
    refine iteT ?_
    exact hq _ s1 (by simpa using k) m1 H1 e1 hS1
  | false =>
    refine iteF ?_
    exact ⟨r, s1, m1, q, e, hE.ext e1, hS1, by simpa using k, hq.ext e1, hx.ext e1⟩
theorem dw_and1 (ha : DB X Wx a ba) : DW X Wx (.BoolOp .And [a] pos) ba := pw_and1 ha
theorem dw_or1 (ha : DB X Wx a ba) : DW X Wx (.BoolOp .Or [a] pos) ba := pw_or1 ha
theorem dw_and (ha : DB X Wx a ba) (hb : DW X Wx (.BoolOp .And (b :: rest) pos) bb) : DW X Wx (.BoolOp .And (a :: b :: rest) pos) (bAnd ba bb) := pw_imp (pw_and ha hb) tB_and
theorem dw_or (ha : DB X Wx a ba) (hb : DW X Wx (.BoolOp .Or (b :: rest) pos) bb) : DW X Wx (.BoolOp .Or (a :: b :: rest) pos) (bOr ba bb) := pw_imp (pw_or ha hb) tB_or
theorem dw_db {e : Expr} (h : DW X Wx e ba) : DB X Wx e ba := h.pt
theorem db_not (ha : DB X Wx a ba) : DB X Wx (.UnaryOp .Not a pos) (bNot ba) := by
  refine pt_imp (pt_not ha) fun σ H Q ⟨r, s, m, q, e, hE, hS, h, hq, hx⟩ => ?_
  exact ⟨r, s, m, _, e, hE, hS, h, fun b s1 k m1 H1 e1 hS1 => hq _ s1 k m1 H1 e1 hS1, hx⟩
/-- a call, a name .. whose value is a bool, as a test -/
theorem db_val {e : Expr} (h : DE X Wx e ta) (he : ∀ whole, isTrue e X.env whole = (do let v ← whole; standAt e.pos; holding [v] (truthy v)) := by intro _; rfl) : DB X Wx e (mT ta) :=
  pt_imp (pt_val h he) tB_T
def mIf (c : BT) (ta tb : ET) : ET := fun r s q e => c r s (fun k s1 => if k = true then ta r s1 q e else tb r s1 q e) e
theorem de_if {c : Expr} (hc : DB X Wx c bc) (ha : DE X Wx a ta) (hb : DE X Wx b tb) : DE X Wx (.IfExp c a b pos) (mIf bc ta tb) := by
  refine pe_imp (pe_ifExp hc ha hb) fun σ H Q ⟨r, s, m, q, e, hE, hS, h, hq, hx⟩ => ?_
  refine ⟨r, s, m, _, e, hE, hS, h, fun b s1 k m1 H1 e1 hS1 => ?_, hx⟩
  cases b with
  | true =>
    refine iteT ?_
    exact ⟨r, s1, m1, q, e, hE.ext e1, hS1, by simpa using k, hq.ext e1, hx.ext e1⟩
  | false =>
    refine iteF ?_
    exact ⟨r, s1, m1, q, e, hE.ext e1, hS1, by simpa using k, hq.ext e1, hx.ext e1⟩
/-- an item -/
theorem de_ix (hr : IxR X r) (hs : S2 (gx X) r op) (ha : DE X Wx a ta) (hb : DE X Wx b tb) (hp : PlainIx b := by exact (fun _ _ => rfl)) : DE X Wx (.Subscript a b pos) (mBin op ta tb) := pe_imp (pe_ix hr ha hb hp) (tE_bin hs)
/-- a built-in function's call -/
theorem tE_fn {rr : List V → Hp → VK → Prop} {opn : ON} {t : LT} (hs : SN (gx X) rr opn) : ∀ σ H Q, tE (gx X) Wx (mFn opn t) σ H Q → tCB rr (tL (gx X) Wx t) σ H Q := by
  intro σ H Q ⟨r, s, m, q, e, hE, hS, h, hq, hx⟩
  exact ⟨r, s, m, _, e, hE, hS, h, fun ws s1 k m1 H1 vs e1 hS1 hv => hs m1 H1 s1 vs ws q Q hS1 hv k (hq.ext e1), hx⟩
theorem de_callB {x : Str} {p : Pos} {e : Expr} {es : List Expr} {id : String} {rr : List V → Hp → VK → Prop} {opn : ON} {t : LT} (hc : CallR X (.builtin id) rr) (hs : SN (gx X) rr opn) (hm : X.mg x = none) (hv : bootBuiltins x = some (.builtin id)) (ha : DA X Wx (e :: es) t) (hg : Gl X x := by rfl) (hn : x ≠ "__name__" := by decide) (hdb : (x == ("__debug__" : Str)) = false := by decide)
    (he : starEach (e :: es) X.env = (false, eval e X.env) :: starEach es X.env := by rfl) (hpl : (backTo pos (starEach es X.env)).any (·.1) = false := by rfl) : DE X Wx (.Call (.Name x p) (e :: es) [] pos) (mFn opn t) :=
  pe_imp (pe_callB hc hg hm hv ha hn hdb he hpl) (tE_fn hs)
theorem de_callTy {x : Str} {p : Pos} {e : Expr} {es : List Expr} {T : String} {rr : List V → Hp → VK → Prop} {opn : ON} {t : LT} (hc : CallR X (.type T) rr) (hs : SN (gx X) rr opn) (hm : X.mg x = none) (hv : bootBuiltins x = some (.type T)) (ha : DA X Wx (e :: es) t) (hg : Gl X x := by rfl) (hn : x ≠ "__name__" := by decide) (hdb : (x == ("__debug__" : Str)) = false := by decide)
    (he : starEach (e :: es) X.env = (false, eval e X.env) :: starEach es X.env := by rfl) (hpl : (backTo pos (starEach es X.env)).any (·.1) = false := by rfl) : DE X Wx (.Call (.Name x p) (e :: es) [] pos) (mFn opn t) :=
  pe_imp (pe_callTy hc hg hm hv ha hn hdb he hpl) (tE_fn hs)
end

/-! ## displays -/
section
variable {X : Cx} {Wx : WX} {es : List Expr} {t : LT} {pos : Pos}
def mTup (t : LT) : ET := fun r s q e => t r s (fun ws s1 => ws.length ≤ sizeLine ∧ q (.tup ws) s1) e
/-- a list that nobody will change -/
def mLst (t : LT) : ET := fun r s q e => t r s (fun ws s1 => ws.length ≤ sizeLine ∧ q (.lst ws) s1) e
/-- a list that may change -/
def mNew (t : LT) : ET := fun r s q e => t r s (fun ws s1 => ws.length ≤ sizeLine ∧ q (.ref s1.length) (s1 ++ [.lst ws])) e
theorem rel_newTup {G : Gx} {m : Mu} {H : Hp} {s : S} {ws : List W} {vs : List V} {p : Addr} (hS : RelS G m H s) (hv : RelWs G m H ws vs) (hp : H p = none) : RelW G m (upd H p (.tup vs)) (.tup ws) (.ref p) := by
  simp only [RelW]
  exact ⟨p, vs, rfl, .inl ⟨fun z => hS.dom p z hp, fun z => (hS.hdom p z).2 hp, .inl upd_same⟩, hv.ext (Ext.aside hp)⟩
theorem rel_newLst {G : Gx} {m : Mu} {H : Hp} {s : S} {ws : List W} {vs : List V} {p : Addr} (hS : RelS G m H s) (hv : RelWs G m H ws vs) (hp : H p = none) : RelW G m (upd H p (.lst vs)) (.lst ws) (.ref p) := by
  simp only [RelW]
  exact ⟨p, vs, rfl, ⟨fun z => hS.dom p z hp, fun z => (hS.hdom p z).2 hp, upd_same⟩, hv.ext (Ext.aside hp)⟩
theorem rel_newRef {G : Gx} {m : Mu} {H : Hp} {s : S} {p : Addr} (hl : m.ad.length = s.length) : RelW G (m.push p) H (.ref s.length) (.ref p) := by
  simp only [RelW]
  exact ⟨p, rfl, by rw [← hl]; simp [Mu.push]⟩
theorem de_tup {x1} (h : DA X Wx es t) : DE X Wx (.Tuple es x1 pos) (mTup t) := by
  refine pe_imp (pe_tup h) fun σ H Q ⟨r, s, m, q, e, hE, hS, h, hq, hx⟩ => ?_
  refine ⟨r, s, m, _, e, hE, hS, h, fun ws s1 ⟨k1, k⟩ m1 H1 vs e1 hS1 hv => ⟨by rw [← hv.length]; exact k1, fun p hp => ?_⟩, hx⟩
  exact hq _ s1 k m1 _ _ (e1.trans (Ext.aside hp)) (hS1.aside hp) (rel_newTup hS1 hv hp)
theorem de_lst (h : DA X Wx es t) : DE X Wx (.List es pos) (mLst t) := by
  refine pe_imp (pe_lst h) fun σ H Q ⟨r, s, m, q, e, hE, hS, h, hq, hx⟩ => ?_
  refine ⟨r, s, m, _, e, hE, hS, h, fun ws s1 ⟨k1, k⟩ m1 H1 vs e1 hS1 hv => ⟨by rw [← hv.length]; exact k1, fun p hp => ?_⟩, hx⟩
  exact hq _ s1 k m1 _ _ (e1.trans (Ext.aside hp)) (hS1.aside hp) (rel_newLst hS1 hv hp)
theorem de_new (h : DA X Wx es t) : DE X Wx (.List es pos) (mNew t) := by
  refine pe_imp (pe_lst h) fun σ H Q ⟨r, s, m, q, e, hE, hS, h, hq, hx⟩ => ?_
  refine ⟨r, s, m, _, e, hE, hS, h, fun ws s1 ⟨k1, k⟩ m1 H1 vs e1 hS1 hv => ⟨by rw [← hv.length]; exact k1, fun p hp => ?_⟩, hx⟩
  exact hq _ _ k (m1.push p) _ _ (e1.trans (Ext.alloc hp)) (hS1.alloc hp ⟨vs, upd_same, hv.ext (Ext.alloc hp)⟩ fun _ z => by cases z) (rel_newRef hS1.len)
end
end Fw

set_option maxRecDepth 100000
set_option maxHeartbeats 4000000
namespace Fw
open PySem PySem.Spec PyProof.Rows L2

/-! ## small statements -/
section
variable {X : Cx} {Wx : WX} {st : Stmt} {rest : List Stmt} {t u : ST} {e : Expr} {te : ET} {pos : Pos}
def mNext : ST := fun r s c => c.nx r s
def mSeq (t u : ST) : ST := fun r s c => t r s { c with nx := fun r' s' => u r' s' c }
def mExpr (te : ET) : ST := fun r s c => te r s (fun _ s' => c.nx r s') (fun k fs s' => c.ex k fs r s')
def mRet (te : ET) : ST := fun r s c => te r s c.rt (fun k fs s' => c.ex k fs r s')
def mRetN : ST := fun _ s c => c.rt .non s
def mBreak : ST := fun r s c => c.bk r s
def mCont : ST := fun r s c => c.ct r s
def mIfS (b : BT) (t u : ST) : ST := fun r s c => b r s (fun k s' => if k = true then t r s' c else u r s' c) (fun k fs s' => c.ex k fs r s')
def mSet (i : Nat) (te : ET) : ST := fun r s c => te r s (fun w s' => c.nx (r.set i (some w)) s') (fun k fs s' => c.ex k fs r s')
theorem Ke.at {G : Gx} {m : Mu} {H : Hp} {ex : Str → Fl → Lv → S → Prop} {r : Lv} {σ : L2.St} (h : Ke G m H Wx ex) (hE : RelE G m H r σ) : Kx G m H (fun c d H' => Wx c d σ H') (fun k fs s' => ex k fs r s') :=
  fun k fs s' q m' H' C d fvs e1 hS hC hd hf => h k fs r s' q m' H' σ C d fvs e1 hS (hE.ext e1) hC hd hf
theorem dss_nil : DSs X Wx [] mNext := pss_imp pss_nil fun D σ H ⟨r, s, m, c, hE, hS, h, hc⟩ => hc.nx r s h m H σ .refl hS hE
theorem dss_cons (h1 : DS X Wx st t) (h2 : DSs X Wx rest u) : DSs X Wx (st :: rest) (mSeq t u) := by
  refine pss_imp (pss_cons h1 h2) fun D σ H ⟨r, s, m, c, hE, hS, h, hc⟩ => ?_
  refine ⟨r, s, m, _, hE, hS, h, ⟨fun r1 s1 k m1 H1 σ1 e1 hS1 hE1 => ?_, hc.rt, hc.bk, hc.ct, hc.ex⟩⟩
  exact ⟨r1, s1, m1, c, hE1, hS1, k, hc.ext e1⟩
theorem dss_one (h1 : DS X Wx st t) : DSs X Wx [st] t := pss_one h1
theorem ds_expr (he : DE X Wx e te) (hs : swapsWith e none pos.line X.env = pure false := by rfl) : DS X Wx (.Expr e pos) (mExpr te) := by
  refine ps_imp (ps_expr he hs) fun D σ H ⟨r, s, m, c, hE, hS, h, hc⟩ => ?_
  exact ⟨r, s, m, _, _, hE, hS, h, fun w s1 k m1 H1 v e1 hS1 hv => hc.nx r s1 k m1 H1 σ e1 hS1 (hE.ext e1), hc.ex.at hE⟩
theorem ds_ret (he : DE X Wx e te) : DS X Wx (.Return (some e) pos) (mRet te) := by
  refine ps_imp (ps_ret he) fun D σ H ⟨r, s, m, c, hE, hS, h, hc⟩ => ?_
  exact ⟨r, s, m, _, _, hE, hS, h, hc.rt, hc.ex.at hE⟩
theorem ds_retN : DS X Wx (.Return none pos) mRetN := ps_imp ps_retN fun D σ H ⟨r, s, m, c, hE, hS, h, hc⟩ => hc.rt .non s h m H .non .refl hS (by simp only [RelW])
theorem ds_pass : DS X Wx (.Pass pos) mNext := ps_imp ps_pass fun D σ H ⟨r, s, m, c, hE, hS, h, hc⟩ => hc.nx r s h m H σ .refl hS hE
theorem ds_break : DS X Wx (.Break pos) mBreak := ps_imp ps_break fun D σ H ⟨r, s, m, c, hE, hS, h, hc⟩ => hc.bk r s h m H σ .refl hS hE
theorem ds_cont : DS X Wx (.Continue pos) mCont := ps_imp ps_continue fun D σ H ⟨r, s, m, c, hE, hS, h, hc⟩ => hc.ct r s h m H σ .refl hS hE
theorem ds_if {b : Expr} {bt : BT} {ss us : List Stmt} (hb : DB X Wx b bt) (h1 : DSs X Wx ss t) (h2 : DSs X Wx us u) : DS X Wx (.If b ss us pos) (mIfS bt t u) := by
  refine ps_imp (ps_if hb h1 h2) fun D σ H ⟨r, s, m, c, hE, hS, h, hc⟩ => ?_
  refine ⟨r, s, m, _, _, hE, hS, h, fun k s1 q m1 H1 e1 hS1 => ?_, hc.ex.at hE⟩
  cases k with
  | true =>
    refine iteT ?_
    exact ⟨r, s1, m1, c, hE.ext e1, hS1, by simpa using q, hc.ext e1⟩
  | false =>
    refine iteF ?_
    exact ⟨r, s1, m1, c, hE.ext e1, hS1, by simpa using q, hc.ext e1⟩
theorem ds_set (i : Nat) {x : Str} {pos' : Pos} (he : DE X Wx e te) (hN : X.N.Nodup) (hi : X.N[i]? = some x := by rfl) (hx : Loc X.env.scope x := by first | exact Or.inl rfl | exact Or.inr rfl) (hs : swapsWith e (some (.Name x pos')) pos.line X.env = pure false := by rfl) (hf : X.fn x = true ∨ X.env.scope.names.lookup x = some .local := by first | exact .inl rfl | exact .inr rfl | assumption) :
    DS X Wx (.Assign [.Name x pos'] e pos) (mSet i te) := by
  refine ps_imp (ps_set hN hi hx he hs hf) fun D σ H ⟨r, s, m, c, hE, hS, h, hc⟩ => ?_
  exact ⟨r, s, m, _, _, hE, hS, h, fun w s1 k m1 H1 v e1 hS1 hv => hc.nx _ s1 k m1 H1 _ e1 hS1 ((hE.ext e1).set hv), hc.ex.at hE⟩
end

/-! ## targets of names -/
inductive Tgt where
  | nm (i : Nat)
  | tp (ts : List Tgt)
def itemsOf (w : W) (s : S) : Option (List W) := match w with
  | .tup xs => some xs
  | .lst xs => some xs
  | .ref n => match s[n]? with
    | some (.lst xs) => some xs
    | _ => none
  | _ => none
mutual
def asg : Tgt → W → Lv → S → Option Lv
  | .nm i, w, r, _ => some (r.set i (some w))
  | .tp ts, w, r, s => match itemsOf w s with
    | some ws => if ws.length = ts.length then asgs ts ws r s else none
    | none => none
def asgs : List Tgt → List W → Lv → S → Option Lv
  | [], _, r, _ => some r
  | t :: ts, ws, r, s => match ws with
    | [] => none
    | w :: ws => match asg t w r s with
      | some r1 => asgs ts ws r1 s
      | none => none
end
mutual
def slots : Tgt → List Nat
  | .nm i => [i]
  | .tp ts => slotss ts
def slotss : List Tgt → List Nat
  | [] => []
  | t :: ts => slots t ++ slotss ts
end
mutual
def gT (K : PySem.W.Frag) : Tgt → TG
  | .nm i => gName i
  | .tp ts => fun v σ H Q => gTup K ts.length (gTs K ts) v σ H Q ∨ gUnl K ts.length (gTs K ts) v σ H Q
def gTs (K : PySem.W.Frag) : List Tgt → TGs
  | [] => gNil
  | t :: ts => gCons (gT K t) (gTs K ts)
end
/-- only the slots in l may differ -/
def Off (l : List Nat) (σ σ' : L2.St) : Prop := σ'.length = σ.length ∧ ∀ j : Nat, j ∉ l → σ'[j]? = σ[j]?
theorem items_rel {G : Gx} {m : Mu} {H : Hp} {s : S} (hS : RelS G m H s) {w : W} {v : V} (h : RelW G m H w v) {ws : List W} (e : itemsOf w s = some ws) :
    ∃ a vs, v = .ref a ∧ (SqT G.K H a vs ∨ SqL G.K H a vs) ∧ RelWs G m H ws vs := by
  unfold itemsOf at e
  split at e
  · cases e
    simp only [RelW] at h
    obtain ⟨a, vs, rfl, h1, h2⟩ := h
    exact ⟨a, vs, rfl, .inl h1.sq, h2⟩
  · cases e
    simp only [RelW] at h
    obtain ⟨a, vs, rfl, h1, h2⟩ := h
    exact ⟨a, vs, rfl, .inr h1.sq, h2⟩
  · rename_i n
    simp only [RelW] at h
    obtain ⟨a, rfl, ha⟩ := h
    split at e
    · cases e
      rename_i q
      obtain ⟨b, hb, vs, h1, h2⟩ := hS.cell n _ q
      rw [ha] at hb; cases hb
      exact ⟨a, vs, rfl, .inr (SqL.of h1), h2⟩
    · cases e
  · cases e
mutual
theorem gT_of {G : Gx} {m : Mu} {H : Hp} {s : S} (hS : RelS G m H s) : ∀ {t : Tgt} {w : W} {v : V} {r r1 : Lv} {σ : L2.St} {Q : L2.St → Hp → Prop}, RelE G m H r σ → RelW G m H w v → asg t w r s = some r1 →
    (∀ σ1, RelE G m H r1 σ1 → Off (slots t) σ σ1 → Q σ1 H) → gT G.K t v σ H Q
  | .nm i, w, v, r, r1, σ, Q, hE, hv, e, k => by
    simp only [asg, Option.some.injEq] at e
    subst e
    simp only [gT, gName]
    refine k _ (hE.set hv) ⟨by simp, fun j hj => ?_⟩
    rw [List.getElem?_set_ne]
    simp only [slots, List.mem_singleton] at hj
    exact fun z => hj z.symm
  | .tp ts, w, v, r, r1, σ, Q, hE, hv, e, k => by
    simp only [asg] at e
    split at e
    · rename_i ws hw
      split at e
      · rename_i hl
        obtain ⟨a, vs, rfl, hq, hr⟩ := items_rel hS hv hw
        have hlen : vs.length = ts.length := by rw [← hr.length]; exact hl
        have body := gTs_of hS (ts := ts) (Q := Q) hE hr e hl (by simpa only [slots] using k)
        simp only [gT]
        rcases hq with hq | hq
        · exact .inl ⟨a, vs, rfl, hq, hlen, body⟩
        · exact .inr ⟨a, vs, rfl, hq, hlen, body⟩
      · cases e
    · cases e
theorem gTs_of {G : Gx} {m : Mu} {H : Hp} {s : S} (hS : RelS G m H s) : ∀ {ts : List Tgt} {ws : List W} {vs : List V} {r r1 : Lv} {σ : L2.St} {Q : L2.St → Hp → Prop}, RelE G m H r σ → RelWs G m H ws vs → asgs ts ws r s = some r1 → ws.length = ts.length →
    (∀ σ1, RelE G m H r1 σ1 → Off (slotss ts) σ σ1 → Q σ1 H) → gTs G.K ts vs σ H Q
  | [], ws, vs, r, r1, σ, Q, hE, hv, e, hl, k => by
    have : ws = [] := List.length_eq_zero_iff.mp hl
    subst this
    simp only [asgs, Option.some.injEq] at e
    subst e
    simp only [RelWs] at hv
    subst hv
    simp only [gTs, gNil]
    exact ⟨trivial, k σ hE ⟨rfl, fun _ _ => rfl⟩⟩
  | t :: ts, [], vs, r, r1, σ, Q, hE, hv, e, hl, k => by simp at hl
  | t :: ts, w :: ws, vs, r, r1, σ, Q, hE, hv, e, hl, k => by
    simp only [RelWs] at hv
    obtain ⟨v, rest, rfl, h1, h2⟩ := hv
    simp only [asgs] at e
    split at e
    · rename_i r2 h3
      simp only [gTs, gCons]
      refine ⟨v, rest, rfl, gT_of hS hE h1 h3 fun σ1 hE1 o1 => ?_⟩
      refine gTs_of hS hE1 h2 e (by simpa using hl) fun σ2 hE2 o2 => k σ2 hE2 ⟨o2.1.trans o1.1, fun j hj => ?_⟩
      simp only [slotss, List.mem_append, not_or] at hj
      exact (o2.2 j hj.2).trans (o1.2 j hj.1)
    · cases e
end
abbrev DT (X : Cx) (tg : Expr) (t : Tgt) : Prop := PG X tg (gT X.K t)
abbrev DTs (X : Cx) (tgs : List Expr) (ts : List Tgt) : Prop := PGs X tgs (gTs X.K ts)
section
variable {X : Cx} {pos : Pos}
theorem dt_nm (i : Nat) {x : Str} (hN : X.N.Nodup) (hi : X.N[i]? = some x := by rfl) (hx : Loc X.env.scope x := by first | exact Or.inl rfl | exact Or.inr rfl) (hf : X.fn x = true ∨ X.env.scope.names.lookup x = some .local := by first | exact .inl rfl | exact .inr rfl | assumption) : DT X (.Name x pos) (.nm i) := by
  show PG X _ (gT X.K (.nm i))
  simp only [gT]
  exact pg_name hN hi hx hf
theorem dts_nil : DTs X [] [] := by
  show PGs X _ (gTs X.K [])
  simp only [gTs]
  exact pgs_nil
theorem dts_cons {e : Expr} {es : List Expr} {t : Tgt} {ts : List Tgt} (h1 : DT X e t) (h2 : DTs X es ts) (hs : (assignEach (e :: es) X.env).map (·.2) = assign e X.env :: (assignEach es X.env).map (·.2) := by rfl) : DTs X (e :: es) (t :: ts) := by
  show PGs X _ (gTs X.K (t :: ts))
  simp only [gTs]
  exact pgs_cons h1 h2 hs
theorem dt_tp {es : List Expr} {k : Nat} {ts : List Tgt} (hc : X.calm = true) (h : DTs X es ts)
    (hn : (assignEach es X.env).length = ts.length := by rfl) (hst : (assignEach es X.env).findIdx? (·.1) = none := by rfl) : DT X (.Tuple es k pos) (.tp ts) := by
  show PG X _ (gT X.K (.tp ts))
  simp only [gT]
  refine ⟨fun pins s σ H v u Q I r hw => ?_⟩
  rcases hw with hw | hw
  · exact (pg_tup hc h hn hst).run pins s σ H v u Q I r hw
  · exact (pg_unl hc h hn hst).run pins s σ H v u Q I r hw
end

/-! ## what a for walks -/
/-- cells that must stay as they are while they are walked -/
abbrev Live := List (Nat × List W)
def okL (l : Live) (s : S) : Prop := ∀ p ∈ l, s[p.1]? = some (.lst p.2)
abbrev IT := Lv → S → (List W → Live → S → Prop) → QX → Prop
/-- the iterator J hands out xs, whatever else goes on -/
def Feeds (G : Gx) (m : Mu) (H : Hp) (J : It) (xs : List W) (l : Live) : Prop := ∀ m' H' s', Ext m H m' H' → RelS G m' H' s' → okL l s' → ∀ i : Nat, (i = xs.length → J.stop i H') ∧
  (i < xs.length → J.go i H' ∧ ∀ x H2, J.yld i H' x H2 → Ext m' H' m' H2 ∧ RelS G m' H2 s' ∧ ∃ w, xs[i]? = some w ∧ RelW G m' H2 w x)
def tI (G : Gx) (Wx : WX) (t : IT) : TI := fun σ H R => ∃ r s m q e, RelE G m H r σ ∧ RelS G m H s ∧ t r s q e ∧ (∀ xs l s', q xs l s' → ∀ m' H' J, Ext m H m' H' → RelS G m' H' s' → Feeds G m' H' J xs l → R J H') ∧ Kx G m H (fun c d H' => Wx c d σ H') e
abbrev DI (X : Cx) (Wx : WX) (tg e : Expr) (t : IT) : Prop := PI X tg e (tI (gx X) Wx t)
theorem pi_imp {X : Cx} {tg e : Expr} {t u : TI} (h : PI X tg e t) (k : ∀ σ H R, u σ H R → t σ H R) : PI X tg e u := ⟨fun p s σ H R I q => h.run p s σ H R I (k σ H R q)⟩
section
variable {X : Cx} {Wx : WX} {tg e : Expr} {te : ET} {tl : LT} {pos p : Pos}
theorem feeds_l {G : Gx} {m : Mu} {H : Hp} {a : Addr} {vs : List V} {xs : List W} (h : FzL m H a vs) (k : RelWs G m H xs vs) : Feeds G m H (Itl G.K a) xs [] := by
  intro m' H' s' e hS _ i
  have q : SqL G.K H' a vs := (h.ext e).sq
  have k' := k.ext e
  refine ⟨fun hi => ⟨vs, q, by rw [← k.length, hi]; exact Nat.le_refl _⟩, fun hi => ?_⟩
  obtain ⟨v, hv, hr⟩ := k'.get (List.getElem?_eq_getElem hi)
  refine ⟨⟨vs, v, q, hv⟩, fun x H2 ⟨e2, y⟩ => ?_⟩
  subst e2
  refine ⟨.refl, hS, _, List.getElem?_eq_getElem hi, ?_⟩
  have := y vs q
  rw [hv] at this
  cases this
  exact hr
theorem feeds_s {G : Gx} {m : Mu} {H : Hp} {a : Addr} {is : List Int} (h : FzS G m H a (is.map V.int)) : Feeds G m H (Itl G.K a) (is.map W.int) [] := by
  intro m' H' s' e hS _ i
  have q : SqL G.K H' a (is.map V.int) := (h.keeps e.keeps).sq
  refine ⟨fun hi => ⟨_, q, by rw [hi]; simp⟩, fun hi => ?_⟩
  have hi' : i < is.length := by simpa using hi
  have hv : (is.map V.int)[i]? = some (V.int is[i]) := by rw [List.getElem?_map, List.getElem?_eq_getElem hi']; rfl
  refine ⟨⟨_, _, q, hv⟩, fun x H2 ⟨e2, y⟩ => ?_⟩
  subst e2
  refine ⟨.refl, hS, .int is[i], by rw [List.getElem?_map, List.getElem?_eq_getElem hi']; rfl, ?_⟩
  have := y _ q
  rw [hv] at this
  cases this
  simp only [RelW]
theorem feeds_t {G : Gx} {m : Mu} {H : Hp} {a : Addr} {vs : List V} {xs : List W} (h : FzT G m H a vs) (k : RelWs G m H xs vs) : Feeds G m H (Itt G.K a) xs [] := by
  intro m' H' s' e hS _ i
  have q := (h.ext e).sq
  have k' := k.ext e
  refine ⟨fun hi => ⟨vs, q, by rw [← k.length, hi]; exact Nat.le_refl _⟩, fun hi => ?_⟩
  obtain ⟨v, hv, hr⟩ := k'.get (List.getElem?_eq_getElem hi)
  refine ⟨⟨vs, v, q, hv⟩, fun x H2 ⟨e2, y⟩ => ?_⟩
  subst e2
  refine ⟨.refl, hS, _, List.getElem?_eq_getElem hi, ?_⟩
  have := y vs q
  rw [hv] at this
  cases this
  exact hr
def rangeW (lo : Int) (n : Nat) : List W := (List.range n).map fun (i : Nat) => .int (lo + (i : Int))
theorem feeds_r {G : Gx} {m : Mu} {H : Hp} {lo : Int} {n : Nat} : Feeds G m H (Itr lo n) (rangeW lo n) [] := by
  intro m' H' s' e hS _ i
  refine ⟨fun hi => (show n ≤ i by rw [hi]; simp [rangeW]), fun hi => ?_⟩
  have hi' : i < n := by simpa [rangeW] using hi
  refine ⟨hi', fun x H2 ⟨e2, y⟩ => ?_⟩
  subst e2
  refine ⟨.refl, hS, .int (lo + i), by simp [rangeW, hi'], ?_⟩
  simp only [RelW]; exact y
theorem feeds_ref {G : Gx} {m : Mu} {H : Hp} {n : Nat} {a : Addr} {xs : List W} (h : m.ad[n]? = some a) : Feeds G m H (Itl G.K a) xs [(n, xs)] := by
  intro m' H' s' e hS hl i
  obtain ⟨b, hb, vs, h1, h2⟩ := hS.cell n _ (hl (n, xs) (by simp))
  rw [e.at h] at hb
  cases hb
  have q : SqL G.K H' a vs := SqL.of h1
  refine ⟨fun hi => ⟨vs, q, by rw [← h2.length, hi]; exact Nat.le_refl _⟩, fun hi => ?_⟩
  obtain ⟨v, hv, hr⟩ := h2.get (List.getElem?_eq_getElem hi)
  refine ⟨⟨vs, v, q, hv⟩, fun x H2 ⟨e2, y⟩ => ?_⟩
  subst e2
  refine ⟨.refl, hS, _, List.getElem?_eq_getElem hi, ?_⟩
  have := y vs q
  rw [hv] at this
  cases this
  exact hr
/-- over a tuple, over a list that does not change -/
def seqOf (w : W) (s : S) (q : List W → Live → Prop) : Prop := match w with
  | .tup xs => q xs []
  | .lst xs => q xs []
  | .scr is => q (is.map W.int) []
  | .ref n => match s[n]? with
    | some (.lst xs) => q xs [(n, xs)]
    | _ => False
  | _ => False
def iSeqM (te : ET) : IT := fun r s q e => te r s (fun w s1 => seqOf w s1 fun xs l => q xs l s1) e
theorem pi_seq {tl : TE} (hl : PE X e tl) : PI X tg e (fun σ H R => tl σ H fun x H1 => ∃ a, x = .ref a ∧ ((∃ xs, SqL X.K H1 a xs ∧ R (Itl X.K a) H1) ∨ ∃ xs, SqT X.K H1 a xs ∧ R (Itt X.K a) H1)) := by
  constructor
  intro pins s σ H R I h
  refine thn (hl.run pins s σ H _ I h) ?_
  rintro v s1 ⟨x, H1, I1, r1, a, rfl, q⟩
  obtain rfl : v = Value.ref a := r1
  have ok : ∀ b ∈ [s1.heap.objs.size], FpOk X pins H1 b := fun b hb => by
    have hb' : b = s1.heap.objs.size := by simpa using hb
    rw [hb']
    exact I1.fpOk (Nat.le_refl _) (I1.hok.fresh (Nat.le_refl _))
  rcases q with ⟨xs, hq, q⟩ | ⟨xs, hq, q⟩
  · obtain ⟨its, rv, pl, hz⟩ := I1.list hq
    apply wpAny_pyIter_list pl.isList
    exact ⟨_, [s1.heap.objs.size], _, _, H1, rfl, I1.kept (t' := s1.toks) (fun b o e => Heap.get?_push_of_some _ e), turn_list a _, ⟨_, Heap.get?_push_size _ rfl, rfl, rfl⟩, ok, q⟩
  · obtain ⟨its, rv, pl, hz⟩ := I1.tuple hq
    apply wpAny_pyIter_tuple (show s1.heap.IsTuple a its.toArray from pl)
    exact ⟨_, [s1.heap.objs.size], _, _, H1, rfl, I1.kept (t' := s1.toks) (fun b o e => Heap.get?_push_of_some _ e), turn_tuple a _, ⟨_, Heap.get?_push_size _ rfl, rfl, rfl⟩, ok, q⟩
theorem di_seq (h : DE X Wx e te) : DI X Wx tg e (iSeqM te) := by
  refine pi_imp (pi_seq h) fun σ H R ⟨r, s, m, q, e, hE, hS, h, hR, hx⟩ => ?_
  refine ⟨r, s, m, _, e, hE, hS, h, fun w s1 k m1 H1 v e1 hS1 hv => ?_, hx⟩
  cases w with
  | tup xs =>
    simp only [RelW] at hv
    obtain ⟨a, vs, rfl, h1, h2⟩ := hv
    exact ⟨a, rfl, .inr ⟨vs, h1.sq, hR xs [] s1 k m1 H1 _ e1 hS1 (feeds_t h1 h2)⟩⟩
  | lst xs =>
    simp only [RelW] at hv
    obtain ⟨a, vs, rfl, h1, h2⟩ := hv
    exact ⟨a, rfl, .inl ⟨vs, h1.sq, hR xs [] s1 k m1 H1 _ e1 hS1 (feeds_l h1 h2)⟩⟩
  | scr is =>
    simp only [RelW] at hv
    obtain ⟨a, rfl, h1⟩ := hv
    exact ⟨a, rfl, .inl ⟨_, h1.sq, hR _ [] s1 k m1 H1 _ e1 hS1 (feeds_s h1)⟩⟩
  | ref n =>
    simp only [RelW] at hv
    obtain ⟨a, rfl, ha⟩ := hv
    dsimp only [seqOf] at k
    split at k
    · rename_i xs hx
      obtain ⟨b, hb, vs, h1, h2⟩ := hS1.cell n _ hx
      rw [ha] at hb
      cases hb
      exact ⟨a, rfl, .inl ⟨vs, SqL.of h1, hR xs _ s1 k m1 H1 _ e1 hS1 (feeds_ref ha)⟩⟩
    · exact k.elim
  | _ => exact k.elim
def smallI (i : Int) : Prop := -(2 ^ 62) ≤ i ∧ i < 2 ^ 62
def iRngM1 (tl : LT) : IT := fun r s q e => tl r s (fun ws s1 => match ws with
  | [.int j] => smallI j ∧ q (rangeW 0 j.toNat) [] s1
  | _ => False) e
def iRngM2 (tl : LT) : IT := fun r s q e => tl r s (fun ws s1 => match ws with
  | [.int i, .int j] => smallI i ∧ smallI j ∧ q (rangeW i (j - i).toNat) [] s1
  | _ => False) e
theorem di_range1 {a : Expr} (hm : X.mg "range" = none) (ha : DA X Wx [a] tl) (hg : Gl X "range" := by rfl) (hs : starEach [a] X.env = [(false, eval a X.env)] := by rfl) : DI X Wx tg (.Call (.Name "range" p) [a] [] pos) (iRngM1 tl) := by
  refine pi_imp (pi_range1 hg hm ha hs) fun σ H R ⟨r, s, m, q, e, hE, hS, h, hR, hx⟩ => ?_
  refine ⟨r, s, m, _, e, hE, hS, h, fun ws s1 k m1 H1 vs e1 hS1 hv => ?_, hx⟩
  dsimp only at k
  split at k
  · rename_i j
    simp only [RelWs, RelW] at hv
    obtain ⟨v, t, rfl, rfl, rfl⟩ := hv
    exact ⟨j, rfl, k.1.1, k.1.2, hR _ [] s1 k.2 m1 H1 _ e1 hS1 feeds_r⟩
  · exact k.elim
theorem di_range2 {a b : Expr} (hm : X.mg "range" = none) (ha : DA X Wx [a, b] tl) (hg : Gl X "range" := by rfl) (hs : starEach [a, b] X.env = [(false, eval a X.env), (false, eval b X.env)] := by rfl) (hs2 : starEach [b] X.env = [(false, eval b X.env)] := by rfl) : DI X Wx tg (.Call (.Name "range" p) [a, b] [] pos) (iRngM2 tl) := by
  refine pi_imp (pi_range2 hg hm ha hs hs2) fun σ H R ⟨r, s, m, q, e, hE, hS, h, hR, hx⟩ => ?_
  refine ⟨r, s, m, _, e, hE, hS, h, fun ws s1 k m1 H1 vs e1 hS1 hv => ?_, hx⟩
  dsimp only at k
  split at k
  · rename_i i j
    simp only [RelWs, RelW] at hv
    obtain ⟨v, t, rfl, rfl, v2, t2, rfl, rfl, rfl⟩ := hv
    exact ⟨i, j, rfl, ⟨k.1.1, k.1.2, k.2.1.1, k.2.1.2⟩, hR _ [] s1 k.2.2 m1 H1 _ e1 hS1 feeds_r⟩
  · exact k.elim
end

/-! ## for, over what stands still -/
def forL (g : Tgt) (body : ST) (l : Live) : List W → Lv → S → Cn → Prop
  | [], r, s, c => okL l s ∧ c.nx r s
  | x :: xs, r, s, c => okL l s ∧ match asg g x r s with
    | some r1 => body r1 s { c with nx := fun r2 s2 => forL g body l xs r2 s2 c, ct := fun r2 s2 => forL g body l xs r2 s2 c, bk := c.nx }
    | none => False
def mFor (it : IT) (g : Tgt) (body : ST) : ST := fun r s c => it r s (fun xs l s1 => forL g body l xs r s1 c) (fun k fs s' => c.ex k fs r s')
section
variable {X : Cx} {Wx : WX} {tg e : Expr} {it : IT} {g : Tgt} {body : List Stmt} {tb : ST} {pos : Pos}
theorem ds_for (hp : PassesOwn (model X.prog X.w) X.A X.env X.xe) (hc : X.calm = true) (hi : DI X Wx tg e it) (hg : DT X tg g) (hb : DSs X Wx body tb) (hs : ∀ x, foldedSetIterable e X.env x = pure x := by intro _; rfl) :
    DS X Wx (.For tg e body [] pos) (mFor it g tb) := by
  refine ps_imp (ps_for hp hc hi hg hb hs) fun D σ H ⟨r, s, m, c, hE, hS, h, hcc⟩ => ?_
  refine ⟨r, s, m, _, _, hE, hS, h, fun xs l s1 k m1 H1 J e1 hS1 hJ => ?_, hcc.ex.at hE⟩
  let Inv' : Nat → L2.St → Hp → Prop := fun i σ2 H2 => i ≤ xs.length ∧ ∃ r2 s2 m2, RelE (gx X) m2 H2 r2 σ2 ∧ RelS (gx X) m2 H2 s2 ∧ Ext m1 H1 m2 H2 ∧ forL g tb l (xs.drop i) r2 s2 c
  refine ⟨fun i k σ2 H2 => k = xs.length - i ∧ Inv' i σ2 H2, ⟨xs.length, by simp, Nat.zero_le _, r, s1, m1, hE.ext e1, hS1, .refl, by simpa using k⟩, ?_⟩
  rintro i n σ2 H2 ⟨rfl, hi, r2, s2, m2, hE2, hS2, e2, hf⟩
  have hok : okL l s2 := by
    cases hdd : xs.drop i with
    | nil => rw [hdd] at hf; unfold forL at hf; exact hf.1
    | cons y ys => rw [hdd] at hf; unfold forL at hf; exact hf.1
  obtain ⟨hstop, hgo⟩ := hJ m2 H2 s2 e2 hS2 hok i
  by_cases hlt : i < xs.length
  · obtain ⟨go, yld⟩ := hgo hlt
    refine .inr ⟨go, Inv' (i + 1), fun σ' H' p' => ⟨xs.length - (i + 1), by omega, rfl, p'⟩, fun x H3 y => ?_⟩
    obtain ⟨e3, hS3, w, hw, hr⟩ := yld x H3 y
    have hd : xs.drop i = w :: xs.drop (i + 1) := by
      rw [List.drop_eq_getElem_cons hlt]
      have := List.getElem?_eq_getElem hlt
      rw [hw] at this
      cases this
      rfl
    rw [hd] at hf
    unfold forL at hf
    replace hf := hf.2
    split at hf
    · rename_i r3 ha
      refine gT_of hS3 (hE2.ext e3) hr ha fun σ3 hE3 _ => ?_
      have e13 := e2.trans e3
      have e03 := e1.trans e13
      have hcc' := hcc.ext e03
      refine ⟨r3, s2, m2, _, hE3, hS3, hf, ⟨fun r4 s4 q m4 H4 σ4 e4 hS4 hE4 => ?_, hcc'.rt, hcc'.nx, fun r4 s4 q m4 H4 σ4 e4 hS4 hE4 => ?_, hcc'.ex⟩⟩
      · exact ⟨hlt, r4, s4, m4, hE4, hS4, e13.trans e4, q⟩
      · exact ⟨hlt, r4, s4, m4, hE4, hS4, e13.trans e4, q⟩
    · exact hf.elim
  · have : i = xs.length := by omega
    subst this
    rw [List.drop_length] at hf
    unfold forL at hf
    exact .inl ⟨hstop rfl, hcc.nx r2 s2 hf.2 m2 H2 σ2 (e1.trans e2) hS2 hE2⟩
end

/-! ## for, over a list of the cells -/
def forLive (g : Tgt) (body : ST) (n : Nat) : Nat → Nat → Lv → S → Cn → Prop
  | 0, _, _, _, _ => False
  | k + 1, i, r, s, c => match s[n]? with
    | some (.lst ys) => match ys[i]? with
      | some y => match asg g y r s with
        | some r1 => body r1 s { c with nx := fun r2 s2 => forLive g body n k (i + 1) r2 s2 c, ct := fun r2 s2 => forLive g body n k (i + 1) r2 s2 c, bk := c.nx }
        | none => False
      | none => c.nx r s
    | _ => False
def mForLive (te : ET) (g : Tgt) (body : ST) : ST := fun r s c => te r s (fun w s1 => match w with
  | .ref n => (∃ xs, s1[n]? = some (.lst xs)) ∧ forLive g body n 16777217 0 r s1 c
  | _ => False) (fun k fs s' => c.ex k fs r s')
section
variable {X : Cx} {Wx : WX} {tg e : Expr} {te : ET} {g : Tgt} {body : List Stmt} {tb : ST} {pos : Pos}
theorem ds_forLive (hp : PassesOwn (model X.prog X.w) X.A X.env X.xe) (hc : X.calm = true) (hi : DE X Wx e te) (hg : DT X tg g) (hb : DSs X Wx body tb) (hs : ∀ x, foldedSetIterable e X.env x = pure x := by intro _; rfl) :
    DS X Wx (.For tg e body [] pos) (mForLive te g tb) := by
  refine ps_imp (ps_for hp hc (pi_list hi) hg hb hs) fun D σ H ⟨r, s, m, c, hE, hS, h, hcc⟩ => ?_
  refine ⟨r, s, m, _, _, hE, hS, h, fun w s1 k m1 H1 v e1 hS1 hv => ?_, hcc.ex.at hE⟩
  cases w with
  | ref n =>
    obtain ⟨⟨xs0, hx0⟩, k⟩ := k
    simp only [RelW] at hv
    obtain ⟨a, rfl, ha⟩ := hv
    obtain ⟨a', ha', vs0, hv0, _⟩ := hS1.cell n _ hx0
    rw [ha] at ha'; cases ha'
    refine ⟨a, rfl, ⟨vs0, SqL.of hv0⟩, ?_⟩
    let Inv' : Nat → Nat → L2.St → Hp → Prop := fun i k σ2 H2 => ∃ r2 s2 m2, RelE (gx X) m2 H2 r2 σ2 ∧ RelS (gx X) m2 H2 s2 ∧ Ext m1 H1 m2 H2 ∧ forLive g tb n k i r2 s2 c
    refine ⟨fun i k σ2 H2 => Inv' i k σ2 H2, ⟨_, r, s1, m1, hE.ext e1, hS1, .refl, k⟩, ?_⟩
    rintro i n' σ2 H2 ⟨r2, s2, m2, hE2, hS2, e2, hf⟩
    cases n' with
    | zero => exact hf.elim
    | succ n' =>
      unfold forLive at hf
      split at hf
      · rename_i ys hy
        obtain ⟨a', ha', vs, hvs, hr⟩ := hS2.cell n _ hy
        rw [e2.at ha] at ha'; cases ha'
        split at hf
        · rename_i y hyi
          obtain ⟨vy, hvy, hry⟩ := hr.get hyi
          refine .inr ⟨⟨vs, vy, SqL.of hvs, hvy⟩, Inv' (i + 1) n', fun σ' H' p' => ⟨n', Nat.lt_succ_self _, p'⟩, fun x H3 ⟨e3, y3⟩ => ?_⟩
          subst e3
          have := y3 vs (SqL.of hvs)
          rw [hvy] at this
          cases this
          split at hf
          · rename_i r3 har
            refine gT_of hS2 hE2 hry har fun σ3 hE3 _ => ?_
            have hcc' := hcc.ext (e1.trans e2)
            refine ⟨r3, s2, m2, _, hE3, hS2, hf, ⟨fun r4 s4 q m4 H4 σ4 e4 hS4 hE4 => ?_, hcc'.rt, hcc'.nx, fun r4 s4 q m4 H4 σ4 e4 hS4 hE4 => ?_, hcc'.ex⟩⟩
            · exact ⟨r4, s4, m4, hE4, hS4, e2.trans e4, q⟩
            · exact ⟨r4, s4, m4, hE4, hS4, e2.trans e4, q⟩
          · exact hf.elim
        · rename_i hyi
          refine .inl ⟨⟨vs, SqL.of hvs, ?_⟩, hcc.nx r2 s2 hf m2 H2 σ2 (e1.trans e2) hS2 hE2⟩
          rw [← hr.length]
          exact List.getElem?_eq_none_iff.mp hyi
      · exact hf.elim
  | _ => exact k.elim
end

/-! ## while -/
def whileN (b : BT) (body : ST) : Nat → Lv → S → Cn → Prop
  | 0, _, _, _ => False
  | k + 1, r, s, c => b r s (fun t s1 => if t = true then body r s1 { c with nx := fun r2 s2 => whileN b body k r2 s2 c, ct := fun r2 s2 => whileN b body k r2 s2 c, bk := c.nx } else c.nx r s1) (fun k fs s' => c.ex k fs r s')
/-- the turns are counted down from a number that is never reached -/
def mWhile (b : BT) (body : ST) : ST := fun r s c => ∃ k, whileN b body k r s c
theorem ds_while {X : Cx} {Wx : WX} {b : Expr} {bt : BT} {body : List Stmt} {tb : ST} {pos : Pos} (hp : PassesOwn (model X.prog X.w) X.A X.env X.xe) (hc : DB X Wx b bt) (hb : DSs X Wx body tb) : DS X Wx (.While b body [] pos) (mWhile bt tb) := by
  refine ps_imp (ps_while hp hc hb) fun D σ H ⟨r, s, m, c, hE, hS, ⟨k0, h⟩, hcc⟩ => ?_
  refine ⟨fun k σ2 H2 => ∃ r2 s2 m2, RelE (gx X) m2 H2 r2 σ2 ∧ RelS (gx X) m2 H2 s2 ∧ Ext m H m2 H2 ∧ whileN bt tb k r2 s2 c, ⟨k0, r, s, m, hE, hS, .refl, h⟩, ?_⟩
  rintro k σ2 H2 ⟨r2, s2, m2, hE2, hS2, e2, hf⟩
  cases k with
  | zero => exact hf.elim
  | succ k =>
    unfold whileN at hf
    have hcc2 := hcc.ext e2
    refine ⟨r2, s2, m2, _, _, hE2, hS2, hf, fun t s3 q m3 H3 e3 hS3 => ?_, hcc2.ex.at hE2⟩
    have hcc3 := hcc2.ext e3
    cases t with
    | true =>
      refine iteT ?_
      refine ⟨fun σ' H' => ∃ r2 s2 m2, RelE (gx X) m2 H' r2 σ' ∧ RelS (gx X) m2 H' s2 ∧ Ext m H m2 H' ∧ whileN bt tb k r2 s2 c, fun σ' H' p' => ⟨k, Nat.lt_succ_self _, p'⟩, ?_⟩
      have q' := q
      simp only [if_true] at q'
      refine ⟨r2, s3, m3, _, hE2.ext e3, hS3, q', ⟨fun r4 s4 q m4 H4 σ4 e4 hS4 hE4 => ?_, hcc3.rt, hcc3.nx, fun r4 s4 q m4 H4 σ4 e4 hS4 hE4 => ?_, hcc3.ex⟩⟩
      · exact ⟨r4, s4, m4, hE4, hS4, (e2.trans e3).trans e4, q⟩
      · exact ⟨r4, s4, m4, hE4, hS4, (e2.trans e3).trans e4, q⟩
    | false =>
      refine iteF ?_
      exact hcc2.nx r2 s3 (by simpa using q) m3 H3 σ2 e3 hS3 (hE2.ext e3)

/-! ## comprehensions -/
def wipeL (r : Lv) : List Nat → Lv
  | [] => r
  | v :: vs => (wipeL r vs).set v none
def compL (g : Tgt) (tt : BT) (te : ET) (r : Lv) (l : Live) : List W → List W → S → (List W → S → Prop) → Prop
  | [], acc, s, q => okL l s ∧ q acc s
  | x :: xs, acc, s, q => okL l s ∧ match asg g x r s with
    | some r1 => tt r1 s (fun b s1 => if b = true then te r1 s1 (fun w s2 => acc.length < sizeLine ∧ compL g tt te r l xs (acc ++ [w]) s2 q) (fun _ _ _ => False) else compL g tt te r l xs acc s1 q) (fun _ _ _ => False)
    | none => False
/-- a list that nobody will change -/
def mComp (it : IT) (g : Tgt) (tt : BT) (te : ET) (vs : List Nat) : ET := fun r s q e => it r s (fun xs l s1 => compL g tt te (wipeL r vs) l xs [] s1 (fun ws s2 => q (.lst ws) s2)) e
def bYes : BT := fun _ s q _ => q true s
theorem wipe_at (σ : L2.St) : ∀ (vs : List Nat) (j : Nat), (wipe σ vs)[j]? = if j ∈ vs then (σ[j]?).map (fun _ => none) else σ[j]?
  | [], j => by simp [wipe]
  | v :: vs, j => by
    unfold wipe
    by_cases h : v = j
    · subst h
      simp only [List.mem_cons, true_or, if_true]
      rw [List.getElem?_set_self']
      rw [wipe_at σ vs v]
      split
      · cases σ[v]? <;> rfl
      · rfl
    · rw [List.getElem?_set_ne h, wipe_at σ vs j]
      have : j ≠ v := fun z => h z.symm
      simp [this]
theorem off_wipe {l vs : List Nat} {σ σ' : L2.St} (h : Off l σ σ') (k : ∀ i ∈ l, i ∈ vs) : wipe σ' vs = wipe σ vs := by
  apply List.ext_getElem?
  intro j
  rw [wipe_at, wipe_at]
  by_cases hj : j ∈ vs
  · simp only [hj, if_true]
    have h1 := h.1
    by_cases hl : j < σ.length
    · have hl' : j < σ'.length := by omega
      rw [List.getElem?_eq_getElem hl, List.getElem?_eq_getElem hl']; rfl
    · have e1 : σ[j]? = none := List.getElem?_eq_none (by omega)
      have e2 : σ'[j]? = none := List.getElem?_eq_none (by omega)
      rw [e1, e2]
  · simp only [hj, if_false]
    exact h.2 j fun z => hj (k j z)
theorem wipe_twice (σ : L2.St) (vs : List Nat) : wipe (wipe σ vs) vs = wipe σ vs := by
  apply List.ext_getElem?
  intro j
  rw [wipe_at, wipe_at]
  by_cases hj : j ∈ vs
  · simp only [hj, if_true]
    cases σ[j]? <;> rfl
  · simp only [hj, if_false]
theorem RelE.wipe {G : Gx} {m : Mu} {H : Hp} {r : Lv} {σ : L2.St} (h : RelE G m H r σ) : ∀ vs : List Nat, RelE G m H (wipeL r vs) (L2.wipe σ vs)
  | [] => h
  | v :: vs => (RelE.wipe h vs).unset v
abbrev W0 : WX := fun _ _ _ _ => False
abbrev dtests (X : Cx) (ifs : List Expr) (t : BT) : Prop := PTs X ifs (tB (gx X) W0 t)
theorem dts_yes {X : Cx} : dtests X [] bYes := by
  have h : PTs X [] tYes := pts_nil
  refine ⟨fun pins s σ H Q I q => h.run pins s σ H Q I ?_⟩
  obtain ⟨r, s', m, q', e, hE, hS, h, hq, hx⟩ := q
  exact hq true s' h m H .refl hS
theorem dts_one {X : Cx} {t : Expr} {bt : BT} (h : DB X W0 t bt) : dtests X [t] bt := pts_one h
section
variable {X : Cx} {Wx : WX} {elt tg iter : Expr} {ifs : List Expr} {scope : Scope} {own : List (Str × Nat)} {pos : Pos} {it : IT} {g : Tgt} {tt : BT} {te : ET}
theorem tLc_of {G : Gx} {K : PySem.W.Frag} (hK : K = G.K) (hsl : ∀ i ∈ slots g, i ∈ own.map (·.2)) : ∀ σ H Q, tE G Wx (mComp it g tt te (own.map (·.2))) σ H Q → tLc (tI G Wx it) (gT K g) (tB G W0 tt) (tE G W0 te) (own.map (·.2)) σ H Q := by
  subst hK
  intro σ H Q ⟨r, s, m, q, e, hE, hS, h, hq, hx⟩
  refine ⟨r, s, m, _, e, hE, hS, h, fun xs l s1 k m1 H1 J e1 hS1 hJ => ?_, hx⟩
  intro D hD
  let Inv' : Nat → Hp → Prop := fun i H2 => i ≤ xs.length ∧ ∃ acc vs s2 m2, RelS G m2 H2 s2 ∧ Ext m1 H1 m2 H2 ∧ D ∈ m2.hid ∧ H2 D = some (.lst vs) ∧ RelWs G m2 H2 acc vs ∧
    compL g tt te (wipeL r (own.map (·.2))) l (xs.drop i) acc s2 (fun ws s2 => q (.lst ws) s2)
  refine ⟨fun i k H2 => k = xs.length - i ∧ Inv' i H2, ⟨xs.length, by simp, Nat.zero_le _, [], [], s1, ⟨m1.ad, D :: m1.hid⟩, hS1.hide hD, Ext.hide hD, List.mem_cons_self, upd_same, .nil, by simpa using k⟩, ?_⟩
  rintro i n H2 ⟨rfl, hi, acc, vs, s2, m2, hS2, e2, hDm, hDv, hacc, hf⟩
  have hok : okL l s2 := by
    cases hdd : xs.drop i with
    | nil => rw [hdd] at hf; unfold compL at hf; exact hf.1
    | cons y ys => rw [hdd] at hf; unfold compL at hf; exact hf.1
  obtain ⟨hstop, hgo⟩ := hJ m2 H2 s2 e2 hS2 hok i
  have e02 := e1.trans e2
  by_cases hlt : i < xs.length
  · obtain ⟨go, yld⟩ := hgo hlt
    refine .inr ⟨go, Inv' (i + 1), fun H' p' => ⟨xs.length - (i + 1), by omega, rfl, p'⟩, fun x H3 y => ?_⟩
    obtain ⟨e3, hS3, w, hw, hr⟩ := yld x H3 y
    have hd : xs.drop i = w :: xs.drop (i + 1) := by
      rw [List.drop_eq_getElem_cons hlt]
      have := List.getElem?_eq_getElem hlt
      rw [hw] at this
      cases this
      rfl
    rw [hd] at hf
    unfold compL at hf
    replace hf := hf.2
    split at hf
    · rename_i r3 ha
      refine gT_of hS3 ((hE.ext (e02.trans e3)).wipe _) hr ha fun σ3 hE3 o3 => ⟨(off_wipe o3 hsl).trans (wipe_twice _ _), ?_⟩
      have hno : ∀ {m' : Mu} {H' : Hp} {σ' : L2.St}, Kx G m' H' (fun c d H' => W0 c d σ' H') (fun _ _ _ => False) := fun {m' H' σ'} _ _ _ z => z.elim
      have e13 := e2.trans e3
      have hDn : D ∉ m2.ad := (hS2.hdom D hDm).1
      refine ⟨r3, s2, m2, _, _, hE3, hS3, hf, fun b s4 k4 m4 H4 e4 hS4 => ?_, hno⟩
      have hDv3 := e3.keep _ _ hDn hDv
      have hDv4 : H4 D = some (.lst vs) := e4.keep _ _ hDn hDv3
      have hD4 : D ∈ m4.hid := e4.inhid hDm
      cases b with
      | true =>
        refine iteT ?_
        refine ⟨r3, s4, m4, _, _, hE3.ext e4, hS4, by simpa using k4, fun w5 s5 k5 m5 H5 v5 e5 hS5 hv5 => ?_, hno⟩
        have hDv5 : H5 D = some (.lst vs) := e5.keep _ _ (hS4.hdom D hD4).1 hDv4
        have hD5 : D ∈ m5.hid := e5.inhid hD4
        have hacc5 := hacc.ext ((e3.trans e4).trans e5)
        exact ⟨vs, hDv5, by rw [← hacc5.length]; exact k5.1, hlt, acc ++ [w5], vs ++ [v5], s5, m5, hS5.grow hD5, ((e13.trans e4).trans e5).grow hD, hD5, upd_same,
          (hacc5.append (.cons hv5 .nil)).keeps (Keeps.grow hD5), k5.2⟩
      | false =>
        refine iteF ?_
        exact ⟨hlt, acc, vs, s4, m4, hS4, e13.trans e4, hD4, hDv4, hacc.ext (e3.trans e4), by simpa using k4⟩
    · exact hf.elim
  · have : i = xs.length := by omega
    subst this
    rw [List.drop_length] at hf
    unfold compL at hf
    obtain ⟨nh, ehid, hnh⟩ := e2.hx
    have hsub : ∀ a ∈ m1.hid, a ∈ m2.hid := fun a ha => e2.inhid ha
    have hD1 : D ∉ m1.hid := fun z => (hS1.hdom D z).2 hD
    refine .inl ⟨hstop rfl, hq _ s2 hf.2 ⟨m2.ad, m1.hid⟩ H2 _ (e1.trans e2.show_) (hS2.show_ hsub) ?_⟩
    simp only [RelW]
    exact ⟨D, vs, rfl, ⟨(hS2.hdom D hDm).1, hD1, hDv⟩, hacc.keeps (Keeps.show_ hsub)⟩
theorem de_comp (hc : X.calm = true) (hN : X.N.Nodup) (hi : DI X Wx tg iter it) (ok : BlkOk X.N X.env.scope scope own)
    (hg : ∀ (s : Shared) (H : Hp) (C : Addr) (cl : List (Str × Addr)) (fp : List Addr), DT (X.blk s H scope (compEnvC scope cl C X.env) fp) tg g) (ht : ∀ (s : Shared) (H : Hp) (C : Addr) (cl : List (Str × Addr)) (fp : List Addr), dtests (X.blk s H scope (compEnvC scope cl C X.env) fp) ifs tt)
    (he : ∀ (s : Shared) (H : Hp) (C : Addr) (cl : List (Str × Addr)) (fp : List Addr), DE (X.blk s H scope (compEnvC scope cl C X.env) fp) W0 elt te) (hsl : ∀ i ∈ slots g, i ∈ own.map (·.2) := by decide) (hs : ∀ x, foldedSetIterable iter X.env x = pure x := by intro _; rfl) :
    DE X Wx (.ListComp elt [⟨tg, iter, ifs, 0⟩] scope pos) (mComp it g tt te (own.map (·.2))) :=
  pe_imp (pe_lc hc hN hi ok hg ht he hs) (tLc_of rfl hsl)
/-- y = [..] -/
theorem ds_setLc (i : Nat) {y : Str} {py spos : Pos} (hc : X.calm = true) (hN : X.N.Nodup) (hy : X.N[i]? = some y) (hyl : X.env.scope.names.lookup y = some .local)
    (hsw : swapsWith (.ListComp elt [⟨tg, iter, ifs, 0⟩] scope pos) (some (.Name y py)) spos.line X.env = pure true) (hi : DI X Wx tg iter it) (ok : BlkOk X.N X.env.scope scope own)
    (hg : ∀ (s : Shared) (H : Hp) (C : Addr) (cl : List (Str × Addr)) (fp : List Addr), DT (X.blk s H scope (compEnvC scope cl C X.env) fp) tg g) (ht : ∀ (s : Shared) (H : Hp) (C : Addr) (cl : List (Str × Addr)) (fp : List Addr), dtests (X.blk s H scope (compEnvC scope cl C X.env) fp) ifs tt)
    (he : ∀ (s : Shared) (H : Hp) (C : Addr) (cl : List (Str × Addr)) (fp : List Addr), DE (X.blk s H scope (compEnvC scope cl C X.env) fp) W0 elt te) (hsl : ∀ i ∈ slots g, i ∈ own.map (·.2) := by decide) (hs : ∀ x, foldedSetIterable iter X.env x = pure x := by intro _; rfl) :
    DS X Wx (.Assign [.Name y py] (.ListComp elt [⟨tg, iter, ifs, 0⟩] scope pos) spos) (mSet i (mComp it g tt te (own.map (·.2)))) := by
  refine ps_imp (ps_setLc (wi := tI (gx X) Wx it) (g := gT X.K g) (tt := tB (gx X) W0 tt) (te := tE (gx X) W0 te) hc hN hy hyl hsw hi ok hg ht he hs) fun D σ H ⟨r, s, m, c, hE, hS, h, hcc⟩ => ?_
  refine tLc_of (Wx := Wx) rfl hsl σ H _ ⟨r, s, m, _, _, hE, hS, h, fun w s1 k m1 H1 v e1 hS1 hv => ?_, hcc.ex.at hE⟩
  exact hcc.nx _ s1 k m1 H1 _ e1 hS1 ((hE.ext e1).set hv)
end
end Fw

set_option maxRecDepth 100000
set_option maxHeartbeats 4000000
namespace Fw
open PySem PySem.Spec PyProof.Rows L2

/-! ## defs -/
/-- what a def is worth: the arguments, the cells, the ends -/
abbrev FT := List W → S → QW → QX → Prop
def spG (G : Gx) (n : Nat) (g : FT) : Sp := fun vs H Q E => vs.length = n ∧ ∃ ws s m q e, RelWs G m H ws vs ∧ RelS G m H s ∧ g ws s q e ∧ Kq G m H q Q ∧ Kx G m H E e
structure FnG (P : Program) (w : World) (K : PySem.W.Frag) (mg : Str → Option Value) (base : Heap) (k : Nat) (f : Addr) (fd : FuncData) (ps : List Str) (g : FT) : Prop where
  run : ∀ (A : Around) (outer : List Env) (s : Shared) (H : Hp) (args : Args) (us : List Value) (vs : List V) (Q : VK) (E : XK), Room k A → A.guards = some [] →
    Env0 P w K mg base A outer s H → BindsTo s fd args (ps.zip us) → Vals vs us → spG ⟨K, mg⟩ ps.length g vs H Q E →
    codeAny (model P w) A (.call (.ref f) args) (CR (L2.CX P w) outer P w H s Q E) s
/-- a body's meaning as a def's: n slots -/
def fnM (n : Nat) (t : ST) : FT := fun ws s q e => t (ws.map some ++ List.replicate (n - ws.length) none) s ⟨fun _ s' => q .non s', q, fun _ _ => False, fun _ _ => False, fun c fs _ s' => e c fs s'⟩
theorem FnG.mono {P : Program} {w : World} {K : PySem.W.Frag} {mg : Str → Option Value} {base : Heap} {k j : Nat} {f : Addr} {fd : FuncData} {ps : List Str} {g : FT} (F : FnG P w K mg base k f fd ps g) (h : k ≤ j) : FnG P w K mg base j f fd ps g :=
  ⟨fun A o s H a us vs Q E hr => F.run A o s H a us vs Q E (hr.mono h)⟩
theorem FnG.imp {P : Program} {w : World} {K : PySem.W.Frag} {mg : Str → Option Value} {base : Heap} {k : Nat} {f : Addr} {fd : FuncData} {ps : List Str} {g g' : FT} (F : FnG P w K mg base k f fd ps g)
    (h : ∀ vs H Q E, spG ⟨K, mg⟩ ps.length g' vs H Q E → spG ⟨K, mg⟩ ps.length g vs H Q E) : FnG P w K mg base k f fd ps g' :=
  ⟨fun A o s H a us vs Q E hr hg e0 hb hv hs => F.run A o s H a us vs Q E hr hg e0 hb hv (h _ _ _ _ hs)⟩
/-- a caller's wish is carried over -/
theorem FnG.weak {P : Program} {w : World} {K : PySem.W.Frag} {mg : Str → Option Value} {base : Heap} {k : Nat} {f : Addr} {fd : FuncData} {ps : List Str} {g g' : FT} (F : FnG P w K mg base k f fd ps g)
    (h : ∀ ws s q e, g' ws s q e → g ws s q e) : FnG P w K mg base k f fd ps g' :=
  F.imp fun vs H Q E ⟨hl, ws, s, m, q, e, h1, h2, h3, h4, h5⟩ => ⟨hl, ws, s, m, q, e, h1, h2, h _ _ _ _ h3, h4, h5⟩
theorem RelE.start {G : Gx} {m : Mu} {H : Hp} {ws : List W} {vs : List V} {N : List Str} (h : RelWs G m H ws vs) : RelE G m H (ws.map some ++ List.replicate (N.length - ws.length) none) (L2.start N vs) := by
  unfold L2.start
  refine ⟨by simp [h.length], fun i w e => ?_⟩
  have hl := h.length
  by_cases hi : i < ws.length
  · rw [List.getElem?_append_left (by simpa using hi)] at e
    rw [List.getElem?_map] at e
    cases q : ws[i]? with
    | none => rw [q] at e; cases e
    | some w' =>
      rw [q] at e
      simp at e
      subst e
      obtain ⟨v, hv, hr⟩ := h.get q
      refine ⟨v, ?_, hr⟩
      rw [List.getElem?_append_left (by simpa [← hl] using hi), List.getElem?_map, hv]
      rfl
  · rw [List.getElem?_append_right (by simpa using hi)] at e
    rw [List.getElem?_replicate] at e
    split at e <;> cases e
theorem deeper_guards (A : Around) (env : Env) : (A.deeper env).guards = A.guards := by first | rfl | simp [Around.deeper]
section
variable {P : Program} {w : World} {K : PySem.W.Frag} {mg : Str → Option Value} {base : Heap}
/-- the rule for a def -/
theorem fnG_of {k : Nat} {f : Addr} {name qual : Str} {params : Arguments} {body : List Stmt} {scope : Scope} {dV kV doc pm cdv ct oc : Value} {an od : Option Addr} {osl : Array (Option Value)} {N ps : List Str} {t : ST}
    (lk : K.lookup f = some ⟨oc, od, .func (PySem.W.fnOf name qual params body scope dV kV doc pm an cdv ct), osl⟩) (hcd : PySem.W.codeIn K cdv qual = true) (S : FnScope N ps scope)
    (hb : ∀ (A : Around) (outer : List Env) (s : Shared) (H : Hp) (E : XK), Room k (A.deeper (envOfC qual scope s.heap.objs.size f cdv)) → A.guards = some [] →
      DSs (cxOf (L2.CX P w) P w K mg base N qual scope f cdv A outer s H E) (fun c d _ H' => E c d H') body t) :
    FnG P w K mg base (k + 1) f (PySem.W.fnOf name qual params body scope dV kV doc pm an cdv ct) ps (fnM N.length t) := by
  constructor
  intro A outer s H args us vs Q E room hgd e0 bind rel ⟨hlen, ws, st, m, q, e, hws, hst, hg, hq, he⟩
  have inK : K.In s.heap := e0.mod.kin.keeps (fun b o z => (e0.bs b o z).1)
  have lim : s.heap.NoLimit := e0.mod.nolimit.keeps (fun b o z => (e0.bs b o z).1)
  have kinds : ∀ y ∈ ps.zip us, scope.names.lookup y.1 = some .local ∨
      (scope.names.lookup y.1 = some .cell ∧ ((cellsFrom (s.heap.objs.size + 1) scope.names []).lookup y.1).isSome = true) := by
    rintro ⟨n, v⟩ hy
    cases S.par n (List.of_mem_zip hy).1 with
    | inl z => exact Or.inl z
    | inr z => exact Or.inr ⟨z, PySem.W.cellsFrom_some _ _ _ (Or.inl z)⟩
  refine codeAny_call_function room.depth (inK _ _ lk) rfl S.co S.gen rfl
    (PySem.W.codeRec_of inK hcd) (bind _ _ _ _ ?_)
  refine wpAny_newFunctionEnv_cells S.kind kinds
    (fun env henv s1 ic => ?_)
  subst henv
  refine ⟨lim.keeps ic.toInCall.keep, codeAny_func ?_⟩
  have start0 : Inv (cxOf (L2.CX P w) P w K mg base N qual scope f cdv A outer s H E) [] (start N vs) H s1 :=
    inv_start S room.hd e0 hlen rel ic
  have body := (hb A outer s H E (room.deeper _) hgd).run [] s1 (start N vs) H { nx := fun _ H' => Q .non H', rt := Q } start0
    ⟨_, st, m, _, RelE.start (N := N) hws, hst, hg, ?_⟩
  · refine wpAny_mono body (fun fl s' hfl => ?_) (fun _ _ z => z)
    cases fl with
    | next =>
      obtain ⟨_, H', J, z⟩ := hfl
      exact ⟨V.non, H', J.os, J.bare, J.base, J.hok, rfl, z⟩
    | ret u =>
      obtain ⟨v, _, H', J, rv, z⟩ := hfl
      exact ⟨v, H', J.os, J.bare, J.base, J.hok, rv, z⟩
    | brk =>
      obtain ⟨_, _, _, z⟩ := hfl
      exact z.elim
    | cont =>
      obtain ⟨_, _, _, z⟩ := hfl
      exact z.elim
  · refine ⟨fun r s' z m' H' σ' e1 hS _ => hq _ _ z m' H' _ e1 hS (by simp only [RelW]), hq, fun _ _ z => z.elim, fun _ _ z => z.elim, ?_⟩
    exact fun c fs r s' z m' H' σ' C d fvs e1 hS _ hC hd hf => he c fs s' z m' H' C d fvs e1 hS hC hd hf
theorem fun_guard {A : Around} {outer : List Env} {s : Shared} {H : Hp} {E : XK} {N : List Str} {qual : Str} {scope : Scope} {f : Addr} {cdv : Value} (h : A.guards = some []) : (cxOf (L2.CX P w) P w K mg base N qual scope f cdv A outer s H E).A.guards = some [] :=
  (deeper_guards A _).trans h
/-- a def of the text -/
theorem Fun.okG {x qual : Str} {st : Stmt} {f : Addr} {fd : FuncData} {N ps : List Str} {k : Nat} {t : ST} (F : Fun K x qual st f fd) (S : FnScope N ps (defScope st))
    (hb : ∀ (cdv : Value) (A : Around) (outer : List Env) (s : Shared) (H : Hp) (E : XK), Room k (A.deeper (envOfC qual (defScope st) s.heap.objs.size f cdv)) → A.guards = some [] →
      DSs (cxOf (L2.CX P w) P w K mg base N qual (defScope st) f cdv A outer s H E) (fun c d _ H' => E c d H') (defBody st) t) : FnG P w K mg base (k + 1) f fd ps (fnM N.length t) := by
  obtain ⟨oc, od, kV, doc, pm, an, cdv, ct, osl, rfl, lk, hcd⟩ := F.ex
  exact fnG_of lk hcd S (hb cdv)
end

/-! ## calls of defs -/
section
variable {X : Cx} {Wx : WX} {k : Nat} {f : Addr} {fd : FuncData} {ps : List Str} {g : FT} {x : Str} {p pos : Pos} {e : Expr} {es : List Expr} {t : LT}
def mCall (g : FT) (n : Nat) (t : LT) : ET := fun r s q e => t r s (fun ws s1 => ws.length = n ∧ g ws s1 q e) e
theorem run_fnG {pins : List (Addr × Obj)} {σ : L2.St} {H : Hp} {s : Shared} {Q : VK} {E : XK} {us us2 : List Value} {kw : List (Str × Value)} {vs : List V} (F : FnG X.prog X.w X.K X.mg X.base k f fd ps g) (hr : Room k X.A) (hgd : X.A.guards = some []) (tk : Takes X Wx) (hE : ∀ c d H', E c d H' → Wx c d σ H')
    (I : Inv X pins σ H s) (hb : BindsTo s fd ⟨us, kw⟩ (ps.zip us2)) (r : Vals vs us2) (h : spG (gx X) ps.length g vs H Q E) : wpAny (model X.prog X.w) X.A (call (.ref f) us kw) (EP X pins σ Q) X.xe s := by
  refine wpAny_call (codeAny_mono (F.run X.A X.stack s H ⟨us, kw⟩ us2 vs Q E hr hgd I.env0 hb r h) (fun res s' z => ?_))
  cases res with
  | error e1 => exact tk e1 s' (XE.of_call I hE z)
  | ok fl =>
    cases fl with
    | ret u => exact I.after z
    | next => exact z.elim
    | brk => exact z.elim
    | cont => exact z.elim
theorem de_call (F : FnG X.prog X.w X.K X.mg X.base k f fd ps g) (hr : Room k X.A) (hgd : X.A.guards = some []) (hm : X.mg x = some (.ref f)) (hk : PySem.W.keepIn X.K (.ref f) = true) (hb : Binds X.K fd ps []) (tk : Takes X Wx) (ha : DA X Wx (e :: es) t) (hg : Gl X x := by rfl)
    (hdb : (x == ("__debug__" : Str)) = false := by decide) (he : starEach (e :: es) X.env = (false, eval e X.env) :: starEach es X.env := by rfl) (hpl : (backTo pos (starEach es X.env)).any (·.1) = false := by rfl) :
    DE X Wx (.Call (.Name x p) (e :: es) [] pos) (mCall g ps.length t) := by
  constructor
  intro pins s σ H Q I ⟨r, st, m, q, ex, hE, hS, h, hq, hx⟩
  refine wpAny_Call_Name_kw (ld_glob I hg hm ?_ hdb)
  refine PySem.W.callWith_K (h₀ := X.base) I.ok.mod.kin hk ?_ he hpl
  have hrun := ha.run pos pins s σ H (fun vs H1 => vs.length = ps.length ∧ ∃ ws s1 m1, RelWs (gx X) m1 H1 ws vs ∧ RelS (gx X) m1 H1 s1 ∧ Ext m H m1 H1 ∧ g ws s1 q ex) I
    ⟨r, st, m, _, ex, hE, hS, h, fun ws s1 k1 m1 H1 vs e1 hS1 hv => ⟨by rw [← hv.length]; exact k1.1, ws, s1, m1, hv, hS1, e1, k1.2⟩, hx⟩
  refine thn hrun fun us s1 ⟨vs, H1, I1, rv, hl, ws, st1, m1, hws, hst1, e1, hg1⟩ => ⟨I1.kIn, ?_⟩
  refine run_fnG (E := fun c d H' => Wx c d σ H') (us2 := us) F hr hgd tk (fun _ _ _ z => z) I1 ?_ rv ⟨hl, ws, st1, m1, q, ex, hws, hst1, hg1, hq.ext e1, hx.ext e1⟩
  have := hb s1 us I1.kIn (by rw [List.append_nil, ← rv.length]; exact hl)
  simpa using this
end
end Fw

set_option maxRecDepth 100000
set_option maxHeartbeats 4000000
namespace Fw
open PySem PySem.Spec PyProof.Rows L2

/-! ## data -/
mutual
def dat (f : Nat → Option PyData) : W → Option PyData
  | .non => some .none
  | .bl b => some (.bool b)
  | .int i => some (.int i)
  | .str x => some (.str x)
  | .tup xs => (dats f xs).map .tuple
  | .lst xs => (dats f xs).map .list
  | .ref n => f n
  | .scr is => some (.list (is.map .int))
def dats (f : Nat → Option PyData) : List W → Option (List PyData)
  | [] => some []
  | x :: xs => match dat f x, dats f xs with
    | some d, some ds => some (d :: ds)
    | _, _ => none
end
def cellD (s : S) : Nat → Nat → Option PyData
  | 0, _ => none
  | k + 1, n => match s[n]? with
    | some (.lst xs) => (dats (cellD s k) xs).map .list
    | _ => none
def datS (s : S) (w : W) : Option PyData := dat (cellD s 3) w
section
variable {X : Cx} {pins : List (Addr × Obj)} {σ : L2.St} {H : Hp} {s : Shared} {m : Mu} {st : S}
theorem readsAll_ints (h : Heap) : ∀ {is : List Int} {us : List Value}, Vals (is.map V.int) us → ReadsAll h us (is.map PyData.int) []
  | [], _, .nil => .nil
  | i :: r, _, .cons hv t => by
    obtain ⟨k, rfl⟩ := hv
    exact .cons (as := []) (bs := []) (.int i k) (readsAll_ints h t)
mutual
theorem reads_of (I : Inv X pins σ H s) {f : Nat → Option PyData} (hf : ∀ n d a, f n = some d → m.ad[n]? = some a → ∃ as, Reads s.heap (.ref a) d as) : ∀ {w : W} {v : V} {u : Value} {d : PyData}, RelW (gx X) m H w v → RelV v u → dat f w = some d → ∃ as, Reads s.heap u d as
  | .non, v, u, d, h, r, e => by
    simp only [RelW] at h; subst h
    simp only [dat, Option.some.injEq] at e; subst e
    cases r; exact ⟨[], .none⟩
  | .bl b, v, u, d, h, r, e => by
    simp only [RelW] at h; subst h
    simp only [dat, Option.some.injEq] at e; subst e
    cases r; exact ⟨[], .bool b⟩
  | .int i, v, u, d, h, r, e => by
    simp only [RelW] at h; subst h
    simp only [dat, Option.some.injEq] at e; subst e
    obtain ⟨t, rfl⟩ := r; exact ⟨[], .int i t⟩
  | .str x, v, u, d, h, r, e => by
    simp only [RelW] at h; subst h
    simp only [dat, Option.some.injEq] at e; subst e
    obtain ⟨t, rfl⟩ := r; exact ⟨[], .str x t⟩
  | .tup xs, v, u, d, h, r, e => by
    simp only [RelW] at h
    obtain ⟨a, vs, rfl, h1, h2⟩ := h
    simp only [dat] at e
    cases q : dats f xs with
    | none => rw [q] at e; cases e
    | some ds =>
      rw [q] at e
      simp only [Option.map_some, Option.some.injEq] at e
      subst e
      cases r
      obtain ⟨its, rv, p, _⟩ := I.tuple h1.sq
      obtain ⟨o, e1, e2, n, e3⟩ := p
      obtain ⟨as, ra⟩ := readsAll_of I hf h2 rv q
      exact ⟨as, .tuple e1 e2 e3 (by simpa using ra)⟩
  | .lst xs, v, u, d, h, r, e => by
    simp only [RelW] at h
    obtain ⟨a, vs, rfl, h1, h2⟩ := h
    simp only [dat] at e
    cases q : dats f xs with
    | none => rw [q] at e; cases e
    | some ds =>
      rw [q] at e
      simp only [Option.map_some, Option.some.injEq] at e
      subst e
      cases r
      obtain ⟨its, rv, p, _⟩ := I.list (h1.sq (K := X.K))
      obtain ⟨o, n, e1, e2, _, e3⟩ := p
      obtain ⟨as, ra⟩ := readsAll_of I hf h2 rv q
      exact ⟨a :: as, .list e1 e2 e3 (by simpa using ra)⟩
  | .ref n, v, u, d, h, r, e => by
    simp only [RelW] at h
    obtain ⟨a, rfl, ha⟩ := h
    simp only [dat] at e
    cases r
    exact hf n d a e ha
  | .scr is, v, u, d, h, r, e => by
    simp only [RelW] at h
    obtain ⟨a, rfl, h1⟩ := h
    simp only [dat, Option.some.injEq] at e; subst e
    cases r
    obtain ⟨its, rv, p, _⟩ := I.list (X := X) (xs := is.map V.int) h1.sq
    obtain ⟨o, n, e1, e2, _, e3⟩ := p
    exact ⟨a :: [], .list e1 e2 e3 (by simpa using readsAll_ints _ rv)⟩
theorem readsAll_of (I : Inv X pins σ H s) {f : Nat → Option PyData} (hf : ∀ n d a, f n = some d → m.ad[n]? = some a → ∃ as, Reads s.heap (.ref a) d as) : ∀ {ws : List W} {vs : List V} {us : List Value} {ds : List PyData}, RelWs (gx X) m H ws vs → Vals vs us → dats f ws = some ds → ∃ as, ReadsAll s.heap us ds as
  | [], vs, us, ds, h, r, e => by
    simp only [RelWs] at h; subst h
    simp only [dats, Option.some.injEq] at e; subst e
    cases r
    exact ⟨[], .nil⟩
  | w :: ws, vs, us, ds, h, r, e => by
    simp only [RelWs] at h
    obtain ⟨v, vr, rfl, h1, h2⟩ := h
    cases r with
    | cons r1 r2 =>
      simp only [dats] at e
      split at e
      · rename_i d ds' q1 q2
        cases e
        obtain ⟨as, ra⟩ := reads_of I hf h1 r1 q1
        obtain ⟨bs, rb⟩ := readsAll_of I hf h2 r2 q2
        exact ⟨as ++ bs, .cons ra rb⟩
      · cases e
end
theorem reads_cell (I : Inv X pins σ H s) (hS : RelS (gx X) m H st) : ∀ (k n : Nat) (d : PyData) (a : Addr), cellD st k n = some d → m.ad[n]? = some a → ∃ as, Reads s.heap (.ref a) d as
  | 0, _, _, _, e, _ => by simp [cellD] at e
  | k + 1, n, d, a, e, ha => by
    simp only [cellD] at e
    split at e
    · rename_i xs hx
      obtain ⟨b, hb, vs, h1, h2⟩ := hS.cell n _ hx
      rw [ha] at hb; cases hb
      cases q : dats (cellD st k) xs with
      | none => rw [q] at e; cases e
      | some ds =>
        rw [q] at e
        simp only [Option.map_some, Option.some.injEq] at e
        subst e
        obtain ⟨its, rv, p, _⟩ := I.list (X := X) (xs := vs) (SqL.of h1)
        obtain ⟨o, n', e1, e2, _, e3⟩ := p
        obtain ⟨as, ra⟩ := readsAll_of I (reads_cell I hS k) h2 rv q
        exact ⟨a :: as, .list e1 e2 e3 (by simpa using ra)⟩
    · cases e
theorem reads_S (I : Inv X pins σ H s) (hS : RelS (gx X) m H st) {w : W} {v : V} {u : Value} {d : PyData} (h : RelW (gx X) m H w v) (r : RelV v u) (e : datS st w = some d) : ∃ as, Reads s.heap u d as :=
  reads_of I (reads_cell I hS 3) h r e
end

/-! ## arithmetic -/
section
variable {X : Cx} {G : Gx}
def rOr (r r' : R2) : R2 := fun x y H Q => r x y H Q ∨ r' x y H Q
/-- two ints -/
def oInt (g : Int → Int → W → Prop → Prop) : O2 := fun a b s q => match a, b with
  | .int i, .int j => g i j .non (q .non s)
  | _, _ => False
def oI (C : Int → Int → Prop) (g : Int → Int → Int) : O2 := fun a b s q => match a, b with
  | .int i, .int j => C i j ∧ q (.int (g i j)) s
  | _, _ => False
theorem s_oI {C : Int → Int → Prop} {g : Int → Int → Int} : S2 G (rI C fun i j => .int (g i j)) (oI C g) := by
  intro m H s x y a b q Q hS ha hb h hq
  cases a with
  | int i =>
    cases b with
    | int j =>
      simp only [RelW] at ha hb
      exact ⟨i, j, ha, hb, h.1, hq _ s h.2 m H _ .refl hS (by simp only [RelW])⟩
    | _ => exact h.elim
  | _ => exact h.elim
def oB (g : Int → Int → Bool) : O2 := fun a b s q => match a, b with
  | .int i, .int j => q (.bl (g i j)) s
  | _, _ => False
theorem s_oB {g : Int → Int → Bool} : S2 G (rI0 fun i j => .bl (g i j)) (oB g) := by
  intro m H s x y a b q Q hS ha hb h hq
  cases a with
  | int i =>
    cases b with
    | int j =>
      simp only [RelW] at ha hb
      exact ⟨i, j, ha, hb, hq _ s h m H _ .refl hS (by simp only [RelW])⟩
    | _ => exact h.elim
  | _ => exact h.elim
/-- the lists behind a value -/
def lstOf (w : W) (s : S) : Option (List W) := match w with
  | .lst xs => some xs
  | .ref n => match s[n]? with
    | some (.lst xs) => some xs
    | _ => none
  | _ => none
theorem lst_rel {m : Mu} {H : Hp} {s : S} (hS : RelS G m H s) {w : W} {v : V} (h : RelW G m H w v) {ws : List W} (e : lstOf w s = some ws) : ∃ a vs, v = .ref a ∧ H a = some (.lst vs) ∧ RelWs G m H ws vs := by
  unfold lstOf at e
  split at e
  · cases e
    simp only [RelW] at h
    obtain ⟨a, vs, rfl, h1, h2⟩ := h
    exact ⟨a, vs, rfl, h1.2.2, h2⟩
  · rename_i n
    simp only [RelW] at h
    obtain ⟨a, rfl, ha⟩ := h
    split at e
    · cases e
      rename_i q
      obtain ⟨b, hb, vs, h1, h2⟩ := hS.cell n _ q
      rw [ha] at hb; cases hb
      exact ⟨a, vs, rfl, h1, h2⟩
    · cases e
  · cases e
def rStrAdd : R2 := fun x y H Q => ∃ i j, x = .str i ∧ y = .str j ∧ i.length + j.length ≤ sizeLine ∧ Q (.str (i ++ j)) H
def rAddA (K : PySem.W.Frag) : R2 := rOr (rI (fun _ _ => True) fun i j => .int (i + j)) (rOr rStrAdd (rOr (rCatA K) rCat))
theorem op_addI : OpR X (binaryOp .Add) (rI (fun _ _ => True) fun i j => .int (i + j)) := fun pins s σ H x y v u Q I rx ry ⟨i, j, h1, h2, _, q⟩ => op_add pins s σ H x y v u Q I rx ry ⟨i, j, h1, h2, q⟩
theorem op_subI : OpR X (binaryOp .Sub) (rI (fun _ _ => True) fun i j => .int (i - j)) := fun pins s σ H x y v u Q I rx ry ⟨i, j, h1, h2, _, q⟩ => op_sub pins s σ H x y v u Q I rx ry ⟨i, j, h1, h2, q⟩
theorem op_addA : OpR X (binaryOp .Add) (rAddA X.K) := op_addI.or (op_add_str.or (op_catA.or op_cat))
/-- + ; a sum of lists is a list that nobody will change -/
def oAdd : O2 := fun a b s q => match a, b with
  | .int i, .int j => q (.int (i + j)) s
  | .str x, .str y => x.length + y.length ≤ sizeLine ∧ q (.str (x ++ y)) s
  | .tup xs, .tup ys => xs.length + ys.length ≤ sizeLine ∧ q (.tup (xs ++ ys)) s
  | a, b => match lstOf a s, lstOf b s with
    | some xs, some ys => xs.length + ys.length ≤ sizeLine ∧ q (.lst (xs ++ ys)) s
    | _, _ => False
theorem s_addLL {m : Mu} {H : Hp} {s : S} {x y : V} {a b : W} {q : QW} {Q : VK} (hS : RelS G m H s) (ha : RelW G m H a x) (hb : RelW G m H b y) {xs ys : List W} (e1 : lstOf a s = some xs) (e2 : lstOf b s = some ys) (hl : xs.length + ys.length ≤ sizeLine) (h : q (.lst (xs ++ ys)) s) (hq : Kq G m H q Q) : rCat x y H Q := by
  obtain ⟨p1, vs, rfl, h1, k1⟩ := lst_rel hS ha e1
  obtain ⟨p2, us, rfl, h2, k2⟩ := lst_rel hS hb e2
  refine ⟨p1, p2, vs, us, rfl, rfl, h1, h2, by rw [← k1.length, ← k2.length]; exact hl, fun p hp => ?_⟩
  exact hq _ s h m _ _ (Ext.aside hp) (hS.aside hp) (rel_newLst hS (k1.append k2) hp)
theorem s_add : S2 G (rAddA G.K) oAdd := by
  intro m H s x y a b q Q hS ha hb h hq
  unfold oAdd at h
  split at h
  · rename_i i j
    simp only [RelW] at ha hb
    exact .inl ⟨i, j, ha, hb, trivial, hq _ s h m H _ .refl hS (by simp only [RelW])⟩
  · rename_i i j
    simp only [RelW] at ha hb
    exact .inr (.inl ⟨i, j, ha, hb, h.1, hq _ s h.2 m H _ .refl hS (by simp only [RelW])⟩)
  · rename_i xs ys
    have ha' := ha
    have hb' := hb
    simp only [RelW] at ha hb
    obtain ⟨p1, vs, rfl, h1, k1⟩ := ha
    obtain ⟨p2, us, rfl, h2, k2⟩ := hb
    refine .inr (.inr (.inl ⟨p1, p2, vs, us, rfl, rfl, h1.sq, h2.sq, by rw [← k1.length, ← k2.length]; exact h.1, fun e => ?_, fun e1 e2 => ?_, fun e1 e2 p hp => ?_⟩))
    · subst e
      have : xs = [] := List.length_eq_zero_iff.mp (by rw [k1.length]; rfl)
      subst this
      exact hq _ s h.2 m H _ .refl hS hb'
    · subst e2
      have : ys = [] := List.length_eq_zero_iff.mp (by rw [k2.length]; rfl)
      subst this
      have h' := h.2
      rw [List.append_nil] at h'
      exact hq _ s h' m H _ .refl hS ha'
    · exact hq _ s h.2 m _ _ (Ext.aside hp) (hS.aside hp) (rel_newTup hS (k1.append k2) hp)
  · split at h
    · rename_i e1 e2
      exact .inr (.inr (.inr (s_addLL hS ha hb e1 e2 h.1 h.2 hq)))
    · exact h.elim
/-- a sum of lists that may change -/
def oAddN : O2 := fun a b s q => match lstOf a s, lstOf b s with
  | some xs, some ys => xs.length + ys.length ≤ sizeLine ∧ q (.ref s.length) (s ++ [.lst (xs ++ ys)])
  | _, _ => False
theorem s_addN : S2 G rCat oAddN := by
  intro m H s x y a b q Q hS ha hb h hq
  unfold oAddN at h
  split at h
  · rename_i xs ys e1 e2
    obtain ⟨p1, vs, rfl, h1, k1⟩ := lst_rel hS ha e1
    obtain ⟨p2, us, rfl, h2, k2⟩ := lst_rel hS hb e2
    refine ⟨p1, p2, vs, us, rfl, rfl, h1, h2, by rw [← k1.length, ← k2.length]; exact h.1, fun p hp => ?_⟩
    exact hq _ _ h.2 (m.push p) _ _ (Ext.alloc hp) (hS.alloc hp ⟨_, upd_same, (k1.append k2).ext (Ext.alloc hp)⟩ fun _ z => by cases z) (rel_newRef hS.len)
  · exact h.elim
abbrev oSub : O2 := oI (fun _ _ => True) (· - ·)
/-- * -/
abbrev oMul : O2 := oI CMulW (· * ·)
abbrev oMod : O2 := oI (fun _ j => 0 < j) (· % ·)
abbrev oDiv : O2 := oI CDivW (· / ·)
def oPow : O2 := oI CPow (fun i j => i ^ j.toNat)
abbrev oLt : O2 := oB fun i j => decide (i < j)
abbrev oLe : O2 := oB fun i j => decide (i ≤ j)
abbrev oGt : O2 := oB fun i j => decide (j < i)
abbrev oGe : O2 := oB fun i j => decide (j ≤ i)
/-- a list times a number -/
def oRep : O2 := fun a b s q => match lstOf a s, b with
  | some xs, .int k => -(2 ^ 63) ≤ k ∧ k < 2 ^ 63 ∧ xs.length * k.toNat ≤ sizeLine ∧ q (.lst (List.replicate k.toNat xs).flatten) s
  | _, _ => False
theorem rel_rep {m : Mu} {H : Hp} {xs : List W} {vs : List V} (h : RelWs G m H xs vs) : ∀ n : Nat, RelWs G m H (List.replicate n xs).flatten (List.replicate n vs).flatten
  | 0 => .nil
  | n + 1 => by
    rw [List.replicate_succ, List.replicate_succ, List.flatten_cons, List.flatten_cons]
    exact h.append (rel_rep h n)
theorem s_rep : S2 G rRep oRep := by
  intro m H s x y a b q Q hS ha hb h hq
  unfold oRep at h
  split at h
  · rename_i xs k e1
    obtain ⟨p1, vs, rfl, h1, k1⟩ := lst_rel hS ha e1
    simp only [RelW] at hb
    refine ⟨p1, k, vs, rfl, hb, h1, h.1, h.2.1, by rw [← k1.length]; exact h.2.2.1, fun p hp => ?_⟩
    exact hq _ s h.2.2.2 m _ _ (Ext.aside hp) (hS.aside hp) (rel_newLst hS (rel_rep k1 _) hp)
  · exact h.elim
def oRepN : O2 := fun a b s q => match lstOf a s, b with
  | some xs, .int k => -(2 ^ 63) ≤ k ∧ k < 2 ^ 63 ∧ xs.length * k.toNat ≤ sizeLine ∧ q (.ref s.length) (s ++ [.lst (List.replicate k.toNat xs).flatten])
  | _, _ => False
theorem s_repN : S2 G rRep oRepN := by
  intro m H s x y a b q Q hS ha hb h hq
  unfold oRepN at h
  split at h
  · rename_i xs k e1
    obtain ⟨p1, vs, rfl, h1, k1⟩ := lst_rel hS ha e1
    simp only [RelW] at hb
    refine ⟨p1, k, vs, rfl, hb, h1, h.1, h.2.1, by rw [← k1.length]; exact h.2.2.1, fun p hp => ?_⟩
    exact hq _ _ h.2.2.2 (m.push p) _ _ (Ext.alloc hp) (hS.alloc hp ⟨_, upd_same, (rel_rep k1 _).ext (Ext.alloc hp)⟩ fun _ z => by cases z) (rel_newRef hS.len)
  · exact h.elim

/-! ## == and != -/
def oEq (neg : Bool) : O2 := fun a b s q => match datS s a, datS s b with
  | some d, some e => (SeqAt.shaped d && SeqAt.shaped e) = true ∧ q (.bl (neg != PyData.eqv d e)) s
  | _, _ => False
def rEqM (X : Cx) (neg : Bool) : R2 := fun x y H Q => ∃ m st a b d e, RelS (gx X) m H st ∧ RelW (gx X) m H a x ∧ RelW (gx X) m H b y ∧ datS st a = some d ∧ datS st b = some e ∧ SeqAt.shaped d = true ∧ SeqAt.shaped e = true ∧ Q (.bl (neg != PyData.eqv d e)) H
theorem op_eqM (hu : X.A.units + 64 < cLine) : OpR X (compareOp .Eq) (rEqM X false) := by
  intro pins s σ H x y v u Q I rx ry ⟨m, st, a, b, d, e, hS, ha, hb, da, db, sd, se, q⟩
  obtain ⟨as, ra⟩ := reads_S I hS ha rx da
  obtain ⟨bs, rb⟩ := reads_S I hS hb ry db
  exact eq_dataH ra rb sd se hu ⟨.bl _, H, I, rfl, by simpa using q⟩
theorem op_neM (hu : X.A.units + 64 < cLine) : OpR X (compareOp .NotEq) (rEqM X true) := by
  intro pins s σ H x y v u Q I rx ry ⟨m, st, a, b, d, e, hS, ha, hb, da, db, sd, se, q⟩
  obtain ⟨as, ra⟩ := reads_S I hS ha rx da
  obtain ⟨bs, rb⟩ := reads_S I hS hb ry db
  exact ne_dataH ra rb sd se hu ⟨.bl _, H, I, rfl, by simpa using q⟩
theorem s_eq {neg : Bool} : S2 (gx X) (rEqM X neg) (oEq neg) := by
  intro m H s x y a b q Q hS ha hb h hq
  unfold oEq at h
  split at h
  · rename_i d e da db
    simp only [Bool.and_eq_true] at h
    exact ⟨m, s, a, b, d, e, hS, ha, hb, da, db, h.1.1, h.1.2, hq _ s h.2 m H _ .refl hS (by simp only [RelW])⟩
  · exact h.elim
def isNonW : W → Bool
  | .non => true
  | _ => false
/-- is None -/
def oIs (neg : Bool) : O2 := fun a b s q => match b with
  | .non => q (.bl (neg != isNonW a)) s
  | _ => False
theorem non_iff {m : Mu} {H : Hp} {a : W} {x : V} (h : RelW G m H a x) : decide (x = .non) = isNonW a := by
  cases a with
  | non => simp only [RelW] at h; subst h; rfl
  | bl _ => simp only [RelW] at h; subst h; rfl
  | int _ => simp only [RelW] at h; subst h; rfl
  | str _ => simp only [RelW] at h; subst h; rfl
  | tup _ => simp only [RelW] at h; obtain ⟨_, _, rfl, _⟩ := h; rfl
  | lst _ => simp only [RelW] at h; obtain ⟨_, _, rfl, _⟩ := h; rfl
  | ref _ => simp only [RelW] at h; obtain ⟨_, rfl, _⟩ := h; rfl
  | scr _ => simp only [RelW] at h; obtain ⟨_, rfl, _⟩ := h; rfl
theorem s_is : S2 G (fun x y H Q => y = .non ∧ Q (.bl (decide (x = .non))) H) (oIs false) := by
  intro m H s x y a b q Q hS ha hb h hq
  cases b with
  | non =>
    simp only [RelW] at hb
    refine ⟨hb, hq _ s h m H _ .refl hS ?_⟩
    simp only [RelW]
    rw [non_iff ha]; simp
  | _ => exact h.elim
theorem s_isnot : S2 G (fun x y H Q => y = .non ∧ Q (.bl (!decide (x = .non))) H) (oIs true) := by
  intro m H s x y a b q Q hS ha hb h hq
  cases b with
  | non =>
    simp only [RelW] at hb
    refine ⟨hb, hq _ s h m H _ .refl hS ?_⟩
    simp only [RelW]
    rw [non_iff ha]; simp
  | _ => exact h.elim
end
end Fw

set_option maxRecDepth 100000
set_option maxHeartbeats 4000000
namespace Fw
open PySem PySem.Spec PyProof.Rows L2

/-! ## in, not in -/
def oIn (neg : Bool) : O2 := fun a b s q => match datS s a, datS s b with
  | some d, some (.list ds) => (SeqAt.shaped d && SeqAt.shaped (.list ds)) = true ∧ q (.bl (neg != ds.any fun y => PyData.eqv y d)) s
  | some d, some (.tuple ds) => (SeqAt.shaped d && SeqAt.shaped (.tuple ds)) = true ∧ q (.bl (neg != ds.any fun y => PyData.eqv y d)) s
  | _, _ => False
def rInM (X : Cx) (neg : Bool) : R2 := fun x y H Q => ∃ m st a b d ds, RelS (gx X) m H st ∧ RelW (gx X) m H a x ∧ RelW (gx X) m H b y ∧ datS st a = some d ∧ SeqAt.shaped d = true ∧
  ((datS st b = some (.list ds) ∧ SeqAt.shaped (.list ds) = true) ∨ (datS st b = some (.tuple ds) ∧ SeqAt.shaped (.tuple ds) = true)) ∧ Q (.bl (neg != ds.any fun y => PyData.eqv y d)) H
section
variable {X : Cx} {G : Gx}
theorem op_inM (hu : X.A.units + 65 < cLine) : OpR X (compareOp .In) (rInM X false) := by
  intro pins s σ H x y v u Q I rx ry ⟨m, st, a, b, d, ds, hS, ha, hb, da, sd, h, q⟩
  obtain ⟨as, ra⟩ := reads_S I hS ha rx da
  have fin : EP X pins σ Q (.bool (ds.any fun y => PyData.eqv y d)) s := ⟨.bl _, H, I, rfl, by simpa using q⟩
  rcases h with ⟨db, sb⟩ | ⟨db, sb⟩
  · obtain ⟨bs, rb⟩ := reads_S I hS hb ry db
    exact SeqAt.in_list_reads rb ra (SeqAt.canLay_of_shaped sb) (SeqAt.canLay_of_shaped sd) (room_in_shaped sd hu) fin
  · obtain ⟨bs, rb⟩ := reads_S I hS hb ry db
    exact SeqAt.in_tuple_reads rb ra (SeqAt.canLay_of_shaped sb) (SeqAt.canLay_of_shaped sd) (room_in_shaped sd hu) fin
theorem op_notInM (hu : X.A.units + 65 < cLine) : OpR X (compareOp .NotIn) (rInM X true) := by
  intro pins s σ H x y v u Q I rx ry ⟨m, st, a, b, d, ds, hS, ha, hb, da, sd, h, q⟩
  obtain ⟨as, ra⟩ := reads_S I hS ha rx da
  have fin : EP X pins σ Q (.bool (!ds.any fun y => PyData.eqv y d)) s := ⟨.bl _, H, I, rfl, by simpa using q⟩
  rcases h with ⟨db, sb⟩ | ⟨db, sb⟩
  · obtain ⟨bs, rb⟩ := reads_S I hS hb ry db
    exact SeqAt.notIn_list_reads rb ra (SeqAt.canLay_of_shaped sb) (SeqAt.canLay_of_shaped sd) (room_in_shaped sd hu) fin
  · obtain ⟨bs, rb⟩ := reads_S I hS hb ry db
    exact SeqAt.notIn_tuple_reads rb ra (SeqAt.canLay_of_shaped sb) (SeqAt.canLay_of_shaped sd) (room_in_shaped sd hu) fin
theorem s_in {neg : Bool} : S2 (gx X) (rInM X neg) (oIn neg) := by
  intro m H s x y a b q Q hS ha hb h hq
  unfold oIn at h
  split at h
  · rename_i d ds da db
    simp only [Bool.and_eq_true] at h
    exact ⟨m, s, a, b, d, ds, hS, ha, hb, da, h.1.1, .inl ⟨db, h.1.2⟩, hq _ s h.2 m H _ .refl hS (by simp only [RelW])⟩
  · rename_i d ds da db
    simp only [Bool.and_eq_true] at h
    exact ⟨m, s, a, b, d, ds, hS, ha, hb, da, h.1.1, .inr ⟨db, h.1.2⟩, hq _ s h.2 m H _ .refl hS (by simp only [RelW])⟩
  · exact h.elim

/-! ## items, slices, len -/
theorem atI_rel {m : Mu} {H : Hp} {ws : List W} {vs : List V} (h : RelWs G m H ws vs) {k : Int} {w : W} (e : atI ws k = some w) : ∃ v, atI vs k = some v ∧ RelW G m H w v := by
  unfold atI at e ⊢
  rw [h.length] at e
  cases q : ixN vs.length k with
  | none => rw [q] at e; cases e
  | some j =>
    rw [q] at e
    exact h.get (by simpa using e)
def rIx2 (K : PySem.W.Frag) : R2 := fun x y H Q => rIxL K x y H Q ∨ rIxT K x y H Q
theorem ix_2 : IxR X (rIx2 X.K) := ix_list.or ix_tup
def oIx : O2 := fun a i s q => match itemsOf a s, i with
  | some xs, .int k => match atI xs k with
    | some w => q w s
    | none => False
  | _, _ => False
theorem s_ix : S2 G (rIx2 G.K) oIx := by
  intro m H s x y a b q Q hS ha hb h hq
  unfold oIx at h
  split at h
  · rename_i xs k e1
    obtain ⟨p, vs, rfl, hp, k1⟩ := items_rel hS ha e1
    simp only [RelW] at hb
    split at h
    · rename_i w ew
      obtain ⟨v, ev, rv⟩ := atI_rel k1 ew
      have fin := hq _ s h m H v .refl hS rv
      rcases hp with hp | hp
      · exact .inr ⟨p, vs, k, v, rfl, hb, hp, ev, fin⟩
      · exact .inl ⟨p, vs, k, v, rfl, hb, hp, ev, fin⟩
    · exact h.elim
  · exact h.elim
/-- x[lo:hi] -/
def cutW (xs : List W) (lo hi : Option Int) : List W := (xs.drop (HT.sIx xs.length 0 lo)).take (HT.sIx xs.length xs.length hi - HT.sIx xs.length 0 lo)
theorem cut_rel {m : Mu} {H : Hp} {ws : List W} {vs : List V} (h : RelWs G m H ws vs) (lo hi : Option Int) : RelWs G m H (cutW ws lo hi) (cutV vs lo hi) := by
  unfold cutW cutV
  rw [h.length]
  exact (h.drop _).take _
abbrev PT' := Lv → S → (Option Int → S → Prop) → QX → Prop
def pNo : PT' := fun _ s q _ => q none s
def pAt (t : ET) : PT' := fun r s q e => t r s (fun w s1 => match w with
  | .int i => q (some i) s1
  | _ => False) e
def tP (G : Gx) (Wx : WX) (t : PT') : TO := fun σ H Q => ∃ r s m q e, RelE G m H r σ ∧ RelS G m H s ∧ t r s q e ∧ (∀ o s', q o s' → ∀ m' H', Ext m H m' H' → RelS G m' H' s' → Q o H') ∧ Kx G m H (fun c d H' => Wx c d σ H') e
abbrev DP (X : Cx) (Wx : WX) (e : Option Expr) (t : PT') : Prop := PO X e (tP (gx X) Wx t)
theorem po_imp {e : Option Expr} {t u : TO} (h : PO X e t) (k : ∀ σ H Q, u σ H Q → t σ H Q) : PO X e u := ⟨fun p s σ H Q I q => h.run p s σ H Q I (k σ H Q q)⟩
variable {Wx : WX}
theorem dp_no : DP X Wx none pNo := po_imp po_none fun σ H Q ⟨r, s, m, q, e, hE, hS, h, hq, hx⟩ => hq none s h m H .refl hS
theorem dp_at {e : Expr} {te : ET} (h : DE X Wx e te) : DP X Wx (some e) (pAt te) := by
  refine po_imp (po_some h) fun σ H Q ⟨r, s, m, q, e, hE, hS, h, hq, hx⟩ => ?_
  refine ⟨r, s, m, _, e, hE, hS, h, fun w s1 k m1 H1 v e1 hS1 hv => ?_, hx⟩
  cases w with
  | int i =>
    simp only [RelW] at hv
    exact ⟨i, hv, hq _ s1 k m1 H1 e1 hS1⟩
  | _ => exact k.elim
def mSl (te : ET) (lo hi : PT') : ET := fun r s q e => te r s (fun w s1 => lo r s1 (fun a s2 => hi r s2 (fun b s3 => match w with
  | .tup xs => q (.tup (cutW xs a b)) s3
  | w => match lstOf w s3 with
    | some xs => q (.lst (cutW xs a b)) s3
    | none => False) e) e) e
def rSl2 (K : PySem.W.Frag) : V → Option Int → Option Int → Hp → VK → Prop := fun x lo hi H Q => rSlL K x lo hi H Q ∨ rSlA K x lo hi H Q
theorem sl_2 : SlR X (rSl2 X.K) := sl_list.or sl_tupA
theorem cut_whole {xs : List W} {lo hi : Option Int} (h : HT.sIx xs.length 0 lo = 0 ∧ HT.sIx xs.length xs.length hi = xs.length) : cutW xs lo hi = xs := by
  unfold cutW
  rw [h.1, h.2]
  simp
theorem de_slice {e : Expr} {lo hi : Option Expr} {te : ET} {tl th : PT'} {pos p2 : Pos} (he : DE X Wx e te) (hl : DP X Wx lo tl) (hu : DP X Wx hi th) : DE X Wx (.Subscript e (.Slice lo hi none p2) pos) (mSl te tl th) := by
  refine pe_imp (pe_slice sl_2 he hl hu) fun σ H Q ⟨r, s, m, q, e, hE, hS, h, hq, hx⟩ => ?_
  refine ⟨r, s, m, _, e, hE, hS, h, fun w s1 k m1 H1 v e1 hS1 hv => ?_, hx⟩
  refine ⟨r, s1, m1, _, e, hE.ext e1, hS1, k, fun a s2 k2 m2 H2 e2 hS2 => ?_, hx.ext e1⟩
  refine ⟨r, s2, m2, _, e, (hE.ext e1).ext e2, hS2, k2, fun b s3 k3 m3 H3 e3 hS3 => ?_, (hx.ext e1).ext e2⟩
  have hv3 := (hv.ext e2).ext e3
  have e03 := (e1.trans e2).trans e3
  have hll : ∀ {xs : List W}, lstOf w s3 = some xs → q (.lst (cutW xs a b)) s3 → rSl2 X.K v a b H3 Q := fun {xs} el kk => by
    obtain ⟨p, vs, rfl, hp, k1⟩ := lst_rel hS3 hv3 el
    exact .inl ⟨p, vs, rfl, SqL.of hp, fun p' hp' => hq _ s3 kk m3 _ _ (e03.trans (Ext.aside hp')) (hS3.aside hp') (rel_newLst hS3 (cut_rel k1 a b) hp')⟩
  cases w with
  | tup xs =>
    have hv4 := hv3
    simp only [RelW] at hv3
    obtain ⟨p, vs, rfl, hp, k1⟩ := hv3
    refine .inr ⟨p, vs, rfl, hp.sq, fun hw => ?_, fun _ p' hp' => hq _ s3 k3 m3 _ _ (e03.trans (Ext.aside hp')) (hS3.aside hp') (rel_newTup hS3 (cut_rel k1 a b) hp')⟩
    rw [← k1.length] at hw
    have k3' := k3
    dsimp only at k3'
    rw [cut_whole hw] at k3'
    exact hq _ s3 k3' m3 H3 _ e03 hS3 hv4
  | non => simp [lstOf] at k3
  | bl _ => simp [lstOf] at k3
  | int _ => simp [lstOf] at k3
  | str _ => simp [lstOf] at k3
  | scr _ => simp [lstOf] at k3
  | lst xs => exact hll (xs := xs) rfl (by simpa [lstOf] using k3)
  | ref n =>
    dsimp only at k3
    split at k3
    · rename_i xs el
      exact hll el k3
    · exact k3.elim
/-- x[::-1] is not here -/
def lenOf (w : W) (s : S) : Option Nat := match w with
  | .scr is => some is.length
  | .str x => if x.length ≤ sizeLine then some x.length else none
  | w => (itemsOf w s).map List.length
def oLen : ON := fun ws s q => match ws with
  | [w] => match lenOf w s with
    | some n => q (.int n) s
    | none => False
  | _ => False
def rLen (K : PySem.W.Frag) : List V → Hp → VK → Prop := fun xs H Q => (∃ p ys, xs = [.ref p] ∧ (SqL K H p ys ∨ SqT K H p ys) ∧ Q (.int ys.length) H) ∨ (∃ z, xs = [.str z] ∧ z.length ≤ sizeLine ∧ Q (.int z.length) H)
theorem call_lenM : CallR X (.builtin "len") (rLen X.K) := call_len_seq.or call_len_str
theorem RelWs.one {m : Mu} {H : Hp} {w : W} {xs : List V} (h : RelWs G m H [w] xs) : ∃ v, xs = [v] ∧ RelW G m H w v := by
  simp only [RelWs] at h
  obtain ⟨v, r, rfl, h1, rfl⟩ := h
  exact ⟨v, rfl, h1⟩
theorem RelWs.two {m : Mu} {H : Hp} {w w2 : W} {xs : List V} (h : RelWs G m H [w, w2] xs) : ∃ v v2, xs = [v, v2] ∧ RelW G m H w v ∧ RelW G m H w2 v2 := by
  simp only [RelWs] at h
  obtain ⟨v, r, rfl, h1, v2, r2, rfl, h2, rfl⟩ := h
  exact ⟨v, v2, rfl, h1, h2⟩
theorem s_len : SN G (rLen G.K) oLen := by
  intro m H s xs ws q Q hS hw h hq
  unfold oLen at h
  split at h
  · rename_i w
    obtain ⟨v, rfl, hv⟩ := hw.one
    split at h
    · rename_i n en
      have fin : Q (.int n) H := hq _ s h m H _ .refl hS (by simp only [RelW])
      unfold lenOf at en
      split at en
      · rename_i is
        cases en
        simp only [RelW] at hv
        obtain ⟨a, rfl, h1⟩ := hv
        exact .inl ⟨a, _, rfl, .inl h1.sq, by simpa using fin⟩
      · rename_i x
        split at en
        · rename_i hx
          cases en
          simp only [RelW] at hv
          subst hv
          exact .inr ⟨x, rfl, hx, fin⟩
        · cases en
      · cases q2 : itemsOf w s with
        | none => rw [q2] at en; cases en
        | some ys =>
          rw [q2] at en
          simp only [Option.map_some, Option.some.injEq] at en
          subst en
          obtain ⟨a, vs, rfl, h1, h2⟩ := items_rel hS hv q2
          exact .inl ⟨a, vs, rfl, h1.symm, by rw [← h2.length]; exact fin⟩
    · exact h.elim
  · exact h.elim

/-! ## list(..), tuple(..) -/
def seqVals (w : W) (s : S) : Option (List W) := match w with
  | .scr is => some (is.map W.int)
  | w => itemsOf w s
theorem seqVals_rel {m : Mu} {H : Hp} {s : S} (hS : RelS G m H s) {w : W} {v : V} (h : RelW G m H w v) {ws : List W} (e : seqVals w s = some ws) : ∃ a vs, v = .ref a ∧ (SqT G.K H a vs ∨ SqL G.K H a vs) ∧ RelWs G m H ws vs := by
  unfold seqVals at e
  split at e
  · cases e
    simp only [RelW] at h
    obtain ⟨a, rfl, h1⟩ := h
    exact ⟨a, _, rfl, .inr h1.sq, RelWs.ints⟩
  · exact items_rel hS h e
def oList : ON := fun ws s q => match ws with
  | [w] => match seqVals w s with
    | some xs => q (.lst xs) s
    | none => False
  | _ => False
def oListN : ON := fun ws s q => match ws with
  | [w] => match seqVals w s with
    | some xs => q (.ref s.length) (s ++ [.lst xs])
    | none => False
  | _ => False
def rList (K : PySem.W.Frag) : List V → Hp → VK → Prop := fun xs H Q => ∃ p ys, xs = [.ref p] ∧ (SqL K H p ys ∨ SqT K H p ys) ∧ ∀ l, H l = none → Q (.ref l) (upd H l (.lst ys))
theorem call_listM : CallR X (.type "list") (rList X.K) := call_list_of
theorem s_list : SN G (rList G.K) oList := by
  intro m H s xs ws q Q hS hw h hq
  unfold oList at h
  split at h
  · obtain ⟨v, rfl, hv⟩ := hw.one
    split at h
    · rename_i ys e
      obtain ⟨a, vs, rfl, h1, h2⟩ := seqVals_rel hS hv e
      exact ⟨a, vs, rfl, h1.symm, fun p hp => hq _ s h m _ _ (Ext.aside hp) (hS.aside hp) (rel_newLst hS h2 hp)⟩
    · exact h.elim
  · exact h.elim
theorem s_listN : SN G (rList G.K) oListN := by
  intro m H s xs ws q Q hS hw h hq
  unfold oListN at h
  split at h
  · obtain ⟨v, rfl, hv⟩ := hw.one
    split at h
    · rename_i ys e
      obtain ⟨a, vs, rfl, h1, h2⟩ := seqVals_rel hS hv e
      exact ⟨a, vs, rfl, h1.symm, fun p hp => hq _ _ h (m.push p) _ _ (Ext.alloc hp) (hS.alloc hp ⟨_, upd_same, h2.ext (Ext.alloc hp)⟩ fun _ z => by cases z) (rel_newRef hS.len)⟩
    · exact h.elim
  · exact h.elim
def oTuple : ON := fun ws s q => match ws with
  | [w] => match seqVals w s with
    | some xs => q (.tup xs) s
    | none => False
  | _ => False
def rTuple (K : PySem.W.Frag) : List V → Hp → VK → Prop := fun xs H Q => ∃ p ys, xs = [.ref p] ∧ ((SqL K H p ys ∧ ∀ l, H l = none → Q (.ref l) (upd H l (.tup ys))) ∨ (SqT K H p ys ∧ Q (.ref p) H))
theorem call_tupleM : CallR X (.type "tuple") (rTuple X.K) := call_tuple_of
theorem s_tuple : SN G (rTuple G.K) oTuple := by
  intro m H s xs ws q Q hS hw h hq
  unfold oTuple at h
  split at h
  · rename_i w
    obtain ⟨v, rfl, hv⟩ := hw.one
    split at h
    · rename_i ys e
      have hl : ∀ {a : Addr} {vs : List V}, v = .ref a → SqL G.K H a vs → RelWs G m H ys vs → rTuple G.K [v] H Q := fun {a vs} ev hs hr => by
        subst ev
        exact ⟨a, vs, rfl, .inl ⟨hs, fun p hp => hq _ s h m _ _ (Ext.aside hp) (hS.aside hp) (rel_newTup hS hr hp)⟩⟩
      cases w with
      | tup zs =>
        simp only [seqVals, itemsOf, Option.some.injEq] at e
        subst e
        have hv' := hv
        simp only [RelW] at hv
        obtain ⟨a, vs, rfl, h1, h2⟩ := hv
        exact ⟨a, vs, rfl, .inr ⟨h1.sq, hq _ s h m H _ .refl hS hv'⟩⟩
      | lst zs =>
        simp only [seqVals, itemsOf, Option.some.injEq] at e
        subst e
        simp only [RelW] at hv
        obtain ⟨a, vs, rfl, h1, h2⟩ := hv
        exact hl rfl h1.sq h2
      | scr is =>
        simp only [seqVals, Option.some.injEq] at e
        subst e
        simp only [RelW] at hv
        obtain ⟨a, rfl, h1⟩ := hv
        exact hl rfl h1.sq RelWs.ints
      | ref n =>
        have el : lstOf (.ref n) s = some ys := by
          simp only [seqVals, itemsOf] at e
          simp only [lstOf]
          exact e
        obtain ⟨a, vs, ev, h1, h2⟩ := lst_rel hS hv el
        exact hl ev (SqL.of h1) h2
      | _ => simp [seqVals, itemsOf] at e
    · exact h.elim
  · exact h.elim
/-- list(range(..)), tuple(range(..)) -/
def rgOkW (i j : Int) : Prop := -(2 ^ 62) ≤ i ∧ i < 2 ^ 62 ∧ -(2 ^ 62) ≤ j ∧ j < 2 ^ 62 ∧ (j - i).toNat ≤ 2 ^ 24
abbrev RT := Lv → S → (Int → Int → S → Prop) → QX → Prop
def mRg1 (ta : ET) : RT := fun r s q e => ta r s (fun w s1 => match w with
  | .int n => q 0 n s1
  | _ => False) e
def mRg2 (ta tb : ET) : RT := fun r s q e => ta r s (fun w s1 => tb r s1 (fun u s2 => match w, u with
  | .int i, .int j => q i j s2
  | _, _ => False) e) e
def tR (G : Gx) (Wx : WX) (t : RT) : L2.St → Hp → (Int → Int → Hp → Prop) → Prop := fun σ H Q => ∃ r s m q e, RelE G m H r σ ∧ RelS G m H s ∧ t r s q e ∧ (∀ i j s', q i j s' → ∀ m' H', Ext m H m' H' → RelS G m' H' s' → Q i j H') ∧ Kx G m H (fun c d H' => Wx c d σ H') e
abbrev DR (X : Cx) (Wx : WX) (e : Expr) (t : RT) : Prop := PRg X e (tR (gx X) Wx t)
theorem prg_imp {e : Expr} {t u : L2.St → Hp → (Int → Int → Hp → Prop) → Prop} (h : PRg X e t) (k : ∀ σ H Q, u σ H Q → t σ H Q) : PRg X e u := fun p s σ H Q I q => h p s σ H Q I (k σ H Q q)
theorem dr_1 {a : Expr} {ta : ET} {p pos : Pos} (hm : X.mg "range" = none) (ha : DE X Wx a ta) (hg : Gl X "range" := by rfl) (na : starEach [a] X.env = (false, eval a X.env) :: starEach [] X.env := by rfl) : DR X Wx (.Call (.Name "range" p) [a] [] pos) (mRg1 ta) := by
  refine prg_imp (prg_1 hg hm ha na) fun σ H Q ⟨r, s, m, q, e, hE, hS, h, hq, hx⟩ => ?_
  refine ⟨r, s, m, _, e, hE, hS, h, fun w s1 k m1 H1 v e1 hS1 hv => ?_, hx⟩
  cases w with
  | int i =>
    simp only [RelW] at hv
    exact ⟨i, hv, hq _ _ s1 k m1 H1 e1 hS1⟩
  | _ => exact k.elim
theorem dr_2 {a b : Expr} {ta tb : ET} {p pos : Pos} (hm : X.mg "range" = none) (ha : DE X Wx a ta) (hb : DE X Wx b tb) (hg : Gl X "range" := by rfl) (na : starEach [a, b] X.env = (false, eval a X.env) :: starEach [b] X.env := by rfl)
    (nb : starEach [b] X.env = (false, eval b X.env) :: starEach [] X.env := by rfl) (hp : (backTo pos (starEach [b] X.env)).any (·.1) = false := by rfl) : DR X Wx (.Call (.Name "range" p) [a, b] [] pos) (mRg2 ta tb) := by
  refine prg_imp (prg_2 hg hm ha hb na nb hp) fun σ H Q ⟨r, s, m, q, e, hE, hS, h, hq, hx⟩ => ?_
  refine ⟨r, s, m, _, e, hE, hS, h, fun w s1 k m1 H1 v e1 hS1 hv => ?_, hx⟩
  refine ⟨r, s1, m1, _, e, hE.ext e1, hS1, k, fun w2 s2 k2 m2 H2 v2 e2 hS2 hv2 => ?_, hx.ext e1⟩
  cases w with
  | int i =>
    cases w2 with
    | int j =>
      simp only [RelW] at hv hv2
      exact ⟨i, j, hv, hv2, hq _ _ s2 k2 m2 H2 (e1.trans e2) hS2⟩
    | _ => exact k2.elim
  | _ => cases w2 <;> exact k2.elim
def rangeL (i j : Int) : List W := rangeW i (j - i).toNat
def mListRg (t : RT) : ET := fun r s q e => t r s (fun i j s1 => rgOkW i j ∧ q (.lst (rangeL i j)) s1) e
def mListRgN (t : RT) : ET := fun r s q e => t r s (fun i j s1 => rgOkW i j ∧ q (.ref s1.length) (s1 ++ [.lst (rangeL i j)])) e
def mTupRg (t : RT) : ET := fun r s q e => t r s (fun i j s1 => rgOkW i j ∧ q (.tup (rangeL i j)) s1) e
theorem rel_range {m : Mu} {H : Hp} {i j : Int} : RelWs G m H (rangeL i j) (rgV i j) := by
  have e1 : rangeL i j = ((List.range (j - i).toNat).map fun (n : Nat) => i + (n : Int)).map W.int := by
    unfold rangeL rangeW
    rw [List.map_map]
    rfl
  have e2 : rgV i j = ((List.range (j - i).toNat).map fun (n : Nat) => i + (n : Int)).map V.int := by
    unfold rgV
    rw [List.map_map]
    rfl
  rw [e1, e2]
  exact RelWs.ints
variable {e : Expr} {t : RT} {p pos : Pos}
theorem de_listRg (hc : X.calm = true) (hm : X.mg "list" = none) (he : DR X Wx e t) (hg : Gl X "list" := by rfl) (na : starEach [e] X.env = (false, eval e X.env) :: starEach [] X.env := by rfl) : DE X Wx (.Call (.Name "list" p) [e] [] pos) (mListRg t) := by
  refine pe_imp (pe_listRg hc hg hm he na) fun σ H Q ⟨r, s, m, q, e, hE, hS, h, hq, hx⟩ => ?_
  refine ⟨r, s, m, _, e, hE, hS, h, fun i j s1 k m1 H1 e1 hS1 => ⟨k.1, fun l hl => ?_⟩, hx⟩
  exact hq _ s1 k.2 m1 _ _ (e1.trans (Ext.aside hl)) (hS1.aside hl) (rel_newLst hS1 rel_range hl)
theorem de_listRgN (hc : X.calm = true) (hm : X.mg "list" = none) (he : DR X Wx e t) (hg : Gl X "list" := by rfl) (na : starEach [e] X.env = (false, eval e X.env) :: starEach [] X.env := by rfl) : DE X Wx (.Call (.Name "list" p) [e] [] pos) (mListRgN t) := by
  refine pe_imp (pe_listRg hc hg hm he na) fun σ H Q ⟨r, s, m, q, e, hE, hS, h, hq, hx⟩ => ?_
  refine ⟨r, s, m, _, e, hE, hS, h, fun i j s1 k m1 H1 e1 hS1 => ⟨k.1, fun l hl => ?_⟩, hx⟩
  exact hq _ _ k.2 (m1.push l) _ _ (e1.trans (Ext.alloc hl)) (hS1.alloc hl ⟨_, upd_same, rel_range⟩ fun _ z => by cases z) (rel_newRef hS1.len)
theorem de_tupRg (hc : X.calm = true) (hm : X.mg "tuple" = none) (he : DR X Wx e t) (hg : Gl X "tuple" := by rfl) (na : starEach [e] X.env = (false, eval e X.env) :: starEach [] X.env := by rfl) : DE X Wx (.Call (.Name "tuple" p) [e] [] pos) (mTupRg t) := by
  refine pe_imp (pe_tupRg hc hg hm he na) fun σ H Q ⟨r, s, m, q, e, hE, hS, h, hq, hx⟩ => ?_
  refine ⟨r, s, m, _, e, hE, hS, h, fun i j s1 k m1 H1 e1 hS1 => ⟨k.1, fun l hl => ?_⟩, hx⟩
  exact hq _ s1 k.2 m1 _ _ (e1.trans (Ext.aside hl)) (hS1.aside hl) (rel_newTup hS1 rel_range hl)

/-! ## sums, least, greatest, sorted -/
def intsOf : List W → Option (List Int)
  | [] => some []
  | .int i :: r => (intsOf r).map (i :: ·)
  | _ :: _ => none
theorem intsOf_map : ∀ {ws : List W} {is : List Int}, intsOf ws = some is → ws = is.map W.int
  | [], is, e => by simp only [intsOf, Option.some.injEq] at e; subst e; rfl
  | w :: r, is, e => by
    cases w with
    | int i =>
      simp only [intsOf] at e
      cases q : intsOf r with
      | none => rw [q] at e; cases e
      | some js =>
        rw [q] at e
        simp only [Option.map_some, Option.some.injEq] at e
        subst e
        rw [intsOf_map q]; rfl
    | _ => simp [intsOf] at e
@[simp] theorem intsOf_ints : ∀ is : List Int, intsOf (is.map W.int) = some is
  | [] => rfl
  | i :: r => by simp [intsOf, intsOf_ints r]
def liOf (w : W) (s : S) : Option (List Int) := match w with
  | .scr is => some is
  | w => (lstOf w s).bind intsOf
theorem li_rel {m : Mu} {H : Hp} {s : S} (hS : RelS G m H s) {w : W} {v : V} (h : RelW G m H w v) {is : List Int} (e : liOf w s = some is) : ∃ a, v = .ref a ∧ SqL G.K H a (is.map V.int) := by
  unfold liOf at e
  split at e
  · cases e
    simp only [RelW] at h
    obtain ⟨a, rfl, h1⟩ := h
    exact ⟨a, rfl, h1.sq⟩
  · cases q : lstOf w s with
    | none => rw [q] at e; cases e
    | some xs =>
      rw [q] at e
      have e' : intsOf xs = some is := e
      obtain ⟨a, vs, rfl, h1, h2⟩ := lst_rel hS h q
      rw [intsOf_map e'] at h2
      rw [h2.of_ints] at h1
      exact ⟨a, rfl, SqL.of h1⟩
def oSum : ON := fun ws s q => match ws with
  | [w] => match liOf w s with
    | some is => q (.int is.sum) s
    | none => False
  | _ => False
theorem s_sum : SN G (rSum G.K) oSum := by
  intro m H s xs ws q Q hS hw h hq
  unfold oSum at h
  split at h
  · obtain ⟨v, rfl, hv⟩ := hw.one
    split at h
    · rename_i is e
      obtain ⟨a, rfl, h1⟩ := li_rel hS hv e
      exact ⟨a, is, rfl, h1, hq _ s h m H _ .refl hS (by simp only [RelW])⟩
    · exact h.elim
  · exact h.elim
def leastI : List Int → Int
  | [] => 0
  | i :: r => r.foldl min i
def greatestI : List Int → Int
  | [] => 0
  | i :: r => r.foldl max i
theorem foldl_min_le : ∀ (r : List Int) (i : Int), r.foldl min i ≤ i ∧ (∀ y ∈ r, r.foldl min i ≤ y) ∧ (r.foldl min i = i ∨ r.foldl min i ∈ r)
  | [], i => by simp
  | a :: r, i => by
    obtain ⟨h1, h2, h3⟩ := foldl_min_le r (min i a)
    simp only [List.foldl_cons, List.mem_cons, forall_eq_or_imp]
    refine ⟨by omega, ⟨by omega, h2⟩, ?_⟩
    rcases h3 with h3 | h3
    · rw [h3]; omega
    · exact .inr (.inr h3)
theorem foldl_max_ge : ∀ (r : List Int) (i : Int), i ≤ r.foldl max i ∧ (∀ y ∈ r, y ≤ r.foldl max i) ∧ (r.foldl max i = i ∨ r.foldl max i ∈ r)
  | [], i => by simp
  | a :: r, i => by
    obtain ⟨h1, h2, h3⟩ := foldl_max_ge r (max i a)
    simp only [List.foldl_cons, List.mem_cons, forall_eq_or_imp]
    refine ⟨by omega, ⟨by omega, h2⟩, ?_⟩
    rcases h3 with h3 | h3
    · rw [h3]; omega
    · exact .inr (.inr h3)
theorem least_is {is : List Int} {n : Int} (h : n ∈ is) (k : ∀ y ∈ is, n ≤ y) : n = leastI is := by
  cases is with
  | nil => cases h
  | cons i r =>
    obtain ⟨h1, h2, h3⟩ := foldl_min_le r i
    have a1 : n ≤ r.foldl min i := by
      rcases h3 with h3 | h3
      · rw [h3]; exact k i (by simp)
      · exact k _ (by simp [h3])
    have a2 : r.foldl min i ≤ n := by
      rcases List.mem_cons.mp h with rfl | h
      · exact h1
      · exact h2 n h
    show n = r.foldl min i
    omega
theorem greatest_is {is : List Int} {n : Int} (h : n ∈ is) (k : ∀ y ∈ is, y ≤ n) : n = greatestI is := by
  cases is with
  | nil => cases h
  | cons i r =>
    obtain ⟨h1, h2, h3⟩ := foldl_max_ge r i
    have a1 : r.foldl max i ≤ n := by
      rcases h3 with h3 | h3
      · rw [h3]; exact k i (by simp)
      · exact k _ (by simp [h3])
    have a2 : n ≤ r.foldl max i := by
      rcases List.mem_cons.mp h with rfl | h
      · exact h1
      · exact h2 n h
    show n = r.foldl max i
    omega
/-- min(..), max(..) of a list of numbers, of two numbers -/
def oMin : ON := fun ws s q => match ws with
  | [w] => match liOf w s with
    | some is => is ≠ [] ∧ q (.int (leastI is)) s
    | none => False
  | [.int i, .int j] => q (.int (if j < i then j else i)) s
  | _ => False
def oMax : ON := fun ws s q => match ws with
  | [w] => match liOf w s with
    | some is => is ≠ [] ∧ q (.int (greatestI is)) s
    | none => False
  | [.int i, .int j] => q (.int (if j > i then j else i)) s
  | _ => False
def rMin2 (K : PySem.W.Frag) : List V → Hp → VK → Prop := fun xs H Q => rMin K xs H Q ∨ (∃ i j, xs = [.int i, .int j] ∧ Q (.int (if j < i then j else i)) H)
def rMax2 (K : PySem.W.Frag) : List V → Hp → VK → Prop := fun xs H Q => rMax K xs H Q ∨ (∃ i j, xs = [.int i, .int j] ∧ Q (.int (if j > i then j else i)) H)
theorem call_minM (hc : X.calm = true) : CallR X (.builtin "min") (rMin2 X.K) := (cr_min hc).or (call_min2 hc)
theorem call_maxM (hc : X.calm = true) : CallR X (.builtin "max") (rMax2 X.K) := (cr_max hc).or (call_max2 hc)
theorem pos_of_ne {α : Type} {l : List α} (h : l ≠ []) : 0 < l.length := List.length_pos_iff.mpr h
theorem s_min : SN G (rMin2 G.K) oMin := by
  intro m H s xs ws q Q hS hw h hq
  unfold oMin at h
  split at h
  · obtain ⟨v, rfl, hv⟩ := hw.one
    split at h
    · rename_i is e
      obtain ⟨a, rfl, h1⟩ := li_rel hS hv e
      exact .inl ⟨a, is, rfl, h1, pos_of_ne h.1, fun n hn kn => by rw [least_is hn kn]; exact hq _ s h.2 m H _ .refl hS (by simp only [RelW])⟩
    · exact h.elim
  · rename_i i j
    obtain ⟨v, v2, rfl, hv, hv2⟩ := hw.two
    simp only [RelW] at hv hv2
    subst hv hv2
    exact .inr ⟨i, j, rfl, hq _ s h m H _ .refl hS (by simp only [RelW])⟩
  · exact h.elim
theorem s_max : SN G (rMax2 G.K) oMax := by
  intro m H s xs ws q Q hS hw h hq
  unfold oMax at h
  split at h
  · obtain ⟨v, rfl, hv⟩ := hw.one
    split at h
    · rename_i is e
      obtain ⟨a, rfl, h1⟩ := li_rel hS hv e
      exact .inl ⟨a, is, rfl, h1, pos_of_ne h.1, fun n hn kn => by rw [greatest_is hn kn]; exact hq _ s h.2 m H _ .refl hS (by simp only [RelW])⟩
    · exact h.elim
  · rename_i i j
    obtain ⟨v, v2, rfl, hv, hv2⟩ := hw.two
    simp only [RelW] at hv hv2
    subst hv hv2
    exact .inr ⟨i, j, rfl, hq _ s h m H _ .refl hS (by simp only [RelW])⟩
  · exact h.elim
def sortI (is : List Int) : List Int := is.mergeSort (fun a b => decide (a ≤ b))
theorem sortI_is {is js : List Int} (h : js.Perm is) (k : js.Pairwise (· ≤ ·)) : js = sortI is := by
  have p2 : (sortI is).Perm is := List.mergeSort_perm _ _
  have k2 : (sortI is).Pairwise (fun a b => decide (a ≤ b) = true) := List.pairwise_mergeSort (by intro a b c; simp; omega) (by intro a b; simp; omega) _
  have k2' : (sortI is).Pairwise (· ≤ ·) := k2.imp (by simp)
  exact (h.trans p2.symm).eq_of_pairwise (fun a b _ _ h1 h2 => Int.le_antisymm h1 h2) k k2'
/-- sorted of numbers -/
def oSorted : ON := fun ws s q => match ws with
  | [w] => match liOf w s with
    | some is => q (.lst ((sortI is).map W.int)) s
    | none => False
  | _ => False
theorem s_sorted : SN G (rSortedI G.K) oSorted := by
  intro m H s xs ws q Q hS hw h hq
  unfold oSorted at h
  split at h
  · obtain ⟨v, rfl, hv⟩ := hw.one
    split at h
    · rename_i is e
      obtain ⟨a, rfl, h1⟩ := li_rel hS hv e
      refine ⟨a, is, rfl, h1, fun js p hp hk hn => ?_⟩
      rw [sortI_is hp hk]
      exact hq _ s h m _ _ (Ext.aside hn) (hS.aside hn) (rel_newLst hS RelWs.ints hn)
    · exact h.elim
  · exact h.elim
def oAbs : ON := fun ws s q => match ws with
  | [.int i] => q (.int (if i < 0 then -i else i)) s
  | _ => False
theorem s_abs : SN G (fun xs H Q => ∃ i, xs = [.int i] ∧ Q (.int (if i < 0 then -i else i)) H) oAbs := by
  intro m H s xs ws q Q hS hw h hq
  unfold oAbs at h
  split at h
  · rename_i i
    obtain ⟨v, rfl, hv⟩ := hw.one
    simp only [RelW] at hv
    subst hv
    exact ⟨i, rfl, hq _ s h m H _ .refl hS (by simp only [RelW])⟩
  · exact h.elim
end
end Fw

set_option maxRecDepth 100000
set_option maxHeartbeats 4000000
namespace Fw
open PySem PySem.Spec PyProof.Rows L2

/-! ## methods of lists -/
abbrev OM := W → List W → S → QW → Prop
def SM (G : Gx) (r : V → List V → Hp → VK → Prop) (op : OM) : Prop := ∀ m H s x xs a ws q Q, RelS G m H s → RelW G m H a x → RelWs G m H ws xs → op a ws s q → Kq G m H q Q → r x xs H Q
def isLst (w : W) (s : S) : Bool := (lstOf w s).isSome
def mBM (op : OM) (to : ET) (t : LT) : ET := fun r s q e => to r s (fun w s1 => isLst w s1 = true ∧ t r s1 (fun ws s2 => op w ws s2 q) e) e
def mBM0 (op : OM) (to : ET) : ET := fun r s q e => to r s (fun w s1 => isLst w s1 = true ∧ op w [] s1 q) e
section
variable {X : Cx} {Wx : WX} {G : Gx} {o e : Expr} {es : List Expr} {to : ET} {t : LT} {apos cpos pos : Pos} {id : String} {name : Str} {r : V → List V → Hp → VK → Prop} {op : OM}
theorem isLst_ty {m : Mu} {H : Hp} {s : S} (hS : RelS (gx X) m H s) {w : W} {v : V} (h : RelW (gx X) m H w v) (e : isLst w s = true) : tyV X.K "list" v H := by
  unfold isLst at e
  cases q : lstOf w s with
  | none => rw [q] at e; cases e
  | some xs =>
    obtain ⟨a, vs, rfl, h1, h2⟩ := lst_rel hS h q
    exact .inl ⟨rfl, vs, SqL.of h1⟩
theorem de_bmL (slot : Slot "list" name id) (hty : typeOf (.builtin id) = pure (.type "method_descriptor")) (hm : MtR X id r) (hs : SM (gx X) r op) (ho : DE X Wx o to) (ha : DA X Wx (e :: es) t)
    (hbase : attributeBase o name X.env (eval o X.env) = eval o X.env := by rfl)
    (hfew : ((backTo cpos (starEach (e :: es) X.env)).all (fun x => !x.1) && (backToKw cpos (keywordEach [] X.env)).all (fun x => x.1.isSome)
      && decide ((e :: es).length + ([] : List Keyword).length + (if ([] : List Keyword).isEmpty then 0 else 1) < 30)) = true := by rfl)
    (hline : (apos.endLine == cpos.line) = true := by rfl) (hst : starEach (e :: es) X.env = (false, eval e X.env) :: starEach es X.env := by rfl) (hplain : (backTo cpos (starEach es X.env)).any (·.1) = false := by rfl) :
    DE X Wx (.Call (.Attribute o name apos) (e :: es) [] cpos) (mBM op to t) := by
  refine pe_imp (pe_bm PySem.F.plainAttrs_list slot hty hm ho ha hbase hfew hline hst hplain) fun σ H Q ⟨r, s, m, q, ex, hE, hS, h, hq, hx⟩ => ?_
  refine ⟨r, s, m, _, ex, hE, hS, h, fun w s1 k m1 H1 v e1 hS1 hv => ⟨isLst_ty hS1 hv k.1, ?_⟩, hx⟩
  refine ⟨r, s1, m1, _, ex, hE.ext e1, hS1, k.2, fun ws s2 k2 m2 H2 vs e2 hS2 hvs => ?_, hx.ext e1⟩
  exact hs m2 H2 s2 v vs w ws q Q hS2 (hv.ext e2) hvs k2 (hq.ext (e1.trans e2))
theorem de_bmL0 (slot : Slot "list" name id) (hty : typeOf (.builtin id) = pure (.type "method_descriptor")) (hm : MtR X id r) (hs : SM (gx X) r op) (ho : DE X Wx o to)
    (hbase : attributeBase o name X.env (eval o X.env) = eval o X.env := by rfl) (hline : (apos.endLine == cpos.line) = true := by rfl) :
    DE X Wx (.Call (.Attribute o name apos) [] [] cpos) (mBM0 op to) := by
  refine pe_imp (pe_bm0 PySem.F.plainAttrs_list slot hty hm ho hbase hline) fun σ H Q ⟨r, s, m, q, ex, hE, hS, h, hq, hx⟩ => ?_
  refine ⟨r, s, m, _, ex, hE, hS, h, fun w s1 k m1 H1 v e1 hS1 hv => ⟨isLst_ty hS1 hv k.1, ?_⟩, hx⟩
  exact hs m1 H1 s1 v [] w [] q Q hS1 hv .nil k.2 (hq.ext e1)
/-- the cell behind a reference -/
def cellL (w : W) (s : S) : Option (Nat × List W) := match w with
  | .ref n => match s[n]? with
    | some (.lst xs) => some (n, xs)
    | _ => none
  | _ => none
theorem cellL_rel {m : Mu} {H : Hp} {s : S} (hS : RelS G m H s) {w : W} {v : V} (h : RelW G m H w v) {n : Nat} {xs : List W} (e : cellL w s = some (n, xs)) :
    ∃ a vs, v = .ref a ∧ m.ad[n]? = some a ∧ s[n]? = some (.lst xs) ∧ H a = some (.lst vs) ∧ RelWs G m H xs vs := by
  unfold cellL at e
  split at e
  · rename_i k
    simp only [RelW] at h
    obtain ⟨a, rfl, ha⟩ := h
    split at e
    · rename_i ys q
      simp only [Option.some.injEq, Prod.mk.injEq] at e
      obtain ⟨rfl, rfl⟩ := e
      obtain ⟨b, hb, vs, h1, h2⟩ := hS.cell k _ q
      rw [ha] at hb; cases hb
      exact ⟨a, vs, rfl, ha, q, h1, h2⟩
    · cases e
  · cases e
theorem RelS.wlst {m : Mu} {H : Hp} {s : S} (hS : RelS G m H s) {n : Nat} {a : Addr} {xs ys : List W} {us : List V} (ha : m.ad[n]? = some a) (h0 : s[n]? = some (.lst xs)) (h : RelWs G m H ys us) : RelS G m (upd H a (.lst us)) (s.set n (.lst ys)) :=
  hS.write ha h0 (fun z => by cases z) (fun _ z => by cases z) (fun _ z => by cases z) ⟨us, upd_same, h.ext (Ext.write (List.mem_of_getElem? ha))⟩
def oAppend : OM := fun w ws s q => match cellL w s, ws with
  | some (n, xs), [y] => xs.length < sizeLine ∧ q .non (s.set n (.lst (xs ++ [y])))
  | _, _ => False
theorem s_append : SM G rAppend oAppend := by
  intro m H s x xs a ws q Q hS ha hws h hq
  unfold oAppend at h
  split at h
  · rename_i n ys y e1
    obtain ⟨l, vs, rfl, hl, h0, h1, h2⟩ := cellL_rel hS ha e1
    obtain ⟨v, rfl, hv⟩ := hws.one
    exact ⟨l, vs, v, rfl, rfl, h1, by rw [← h2.length]; exact h.1, hq _ _ h.2 m _ _ (Ext.write (List.mem_of_getElem? hl)) (hS.wlst hl h0 (h2.append (.cons hv .nil))) (by simp only [RelW])⟩
  · exact h.elim
def oPop : OM := fun w ws s q => match cellL w s, ws with
  | some (n, xs), [] => match xs[xs.length - 1]? with
    | some y => q y (s.set n (.lst xs.dropLast))
    | none => False
  | some (n, xs), [.int i] => -(2 ^ 63) ≤ i ∧ i < 2 ^ 63 ∧ match seqIndex? i xs.length with
    | some k => match xs[k]? with
      | some y => q y (s.set n (.lst (xs.eraseIdx k)))
      | none => False
    | none => False
  | _, _ => False
def rPop2 : V → List V → Hp → VK → Prop := fun x vs H Q => rPop x vs H Q ∨ rPopAt x vs H Q
theorem mt_pop2 : MtM X "list.pop" rPop2 := MtR.or mt_pop mt_popAt
theorem RelWs.dropLast {m : Mu} {H : Hp} : ∀ {ws : List W} {vs : List V}, RelWs G m H ws vs → RelWs G m H ws.dropLast vs.dropLast := fun {ws vs} h => by
  rw [List.dropLast_eq_take, List.dropLast_eq_take, h.length]
  exact h.take _
theorem s_pop : SM G rPop2 oPop := by
  intro m H s x xs a ws q Q hS ha hws h hq
  unfold oPop at h
  split at h
  · rename_i n ys e1
    obtain ⟨l, vs, rfl, hl, h0, h1, h2⟩ := cellL_rel hS ha e1
    simp only [RelWs] at hws
    subst hws
    split at h
    · rename_i y ey
      obtain ⟨v, hv, hr⟩ := h2.get ey
      have W1 := Ext.write (m := m) (H := H) (o := .lst vs.dropLast) (List.mem_of_getElem? hl)
      exact .inl ⟨l, vs, v, rfl, rfl, h1, by rw [← h2.length]; exact hv, hq _ _ h m _ _ W1 (hS.wlst hl h0 h2.dropLast) (hr.ext W1)⟩
    · exact h.elim
  · rename_i n ys i e1
    obtain ⟨l, vs, rfl, hl, h0, h1, h2⟩ := cellL_rel hS ha e1
    obtain ⟨v0, rfl, hv0⟩ := hws.one
    simp only [RelW] at hv0
    subst hv0
    obtain ⟨b1, b2, h⟩ := h
    split at h
    · rename_i k ek
      split at h
      · rename_i y ey
        obtain ⟨v, hv, hr⟩ := h2.get ey
        have W1 := Ext.write (m := m) (H := H) (o := .lst (vs.eraseIdx k)) (List.mem_of_getElem? hl)
        exact .inr ⟨l, vs, i, k, v, rfl, rfl, h1, b1, b2, by rw [← h2.length]; exact ek, hv, hq _ _ h m _ _ W1 (hS.wlst hl h0 (h2.eraseIdx k)) (hr.ext W1)⟩
      · exact h.elim
    · exact h.elim
  · exact h.elim
def oExtend : OM := fun w ws s q => match cellL w s, ws with
  | some (n, xs), [.lst ys] => xs.length + ys.length ≤ sizeLine ∧ q .non (s.set n (.lst (xs ++ ys)))
  | _, _ => False
theorem s_extend : SM G rExtend oExtend := by
  intro m H s x xs a ws q Q hS ha hws h hq
  unfold oExtend at h
  split at h
  · rename_i n ys zs e1
    obtain ⟨l, vs, rfl, hl, h0, h1, h2⟩ := cellL_rel hS ha e1
    obtain ⟨v, rfl, hv⟩ := hws.one
    simp only [RelW] at hv
    obtain ⟨b, us, rfl, hb, hu⟩ := hv
    exact ⟨l, b, vs, us, rfl, rfl, h1, hb.2.2, by rw [← h2.length, ← hu.length]; exact h.1, hq _ _ h.2 m _ _ (Ext.write (List.mem_of_getElem? hl)) (hS.wlst hl h0 (h2.append hu)) (by simp only [RelW])⟩
  · exact h.elim

/-! ## x[i] = v -/
abbrev OS := W → W → W → S → (S → Prop) → Prop
def SS (G : Gx) (t : TSet) (op : OS) : Prop := ∀ m H s x y z a b c q (Q : Hp → Prop), RelS G m H s → RelW G m H a x → RelW G m H b y → RelW G m H c z → op a b c s q →
  (∀ s', q s' → ∀ m' H', Ext m H m' H' → RelS G m' H' s' → Q H') → t x y z H Q
def oPut : OS := fun w i y s q => match cellL w s, i with
  | some (n, xs), .int k => match ixN xs.length k with
    | some j => q (s.set n (.lst (xs.set j y)))
    | none => False
  | _, _ => False
theorem s_put : SS G rSetL oPut := by
  intro m H s x y z a b c q Q hS ha hb hc h hq
  unfold oPut at h
  split at h
  · rename_i n xs k e1
    obtain ⟨l, vs, rfl, hl, h0, h1, h2⟩ := cellL_rel hS ha e1
    simp only [RelW] at hb
    split at h
    · rename_i j ej
      exact ⟨l, vs, k, j, rfl, hb, h1, by rw [← h2.length]; exact ej, hq _ h m _ (Ext.write (List.mem_of_getElem? hl)) (hS.wlst hl h0 (RelWs.set hc j h2))⟩
    · exact h.elim
  · exact h.elim
def mPut (op : OS) (to ti tv : ET) : ST := fun r s c => tv r s (fun y s1 => to r s1 (fun w s2 => ti r s2 (fun i s3 => op w i y s3 (fun s4 => c.nx r s4)) (fun k fs s' => c.ex k fs r s')) (fun k fs s' => c.ex k fs r s')) (fun k fs s' => c.ex k fs r s')
variable {i v : Expr} {ti tv : ET} {ts : TSet} {os : OS} {pos' : Pos}
theorem ds_put (hset : PSet X ts) (hs : SS (gx X) ts os) (ho : DE X Wx o to) (hi : DE X Wx i ti) (hv : DE X Wx v tv) (hsw : swapsWithSole [.Subscript o i pos'] v pos.line X.env = pure false := by rfl) (hw : swappedStores [.Subscript o i pos'] v X.env = pure none := by rfl)
    (h1 : (assignEach [.Subscript o i pos'] X.env).map (·.2) = [assign (.Subscript o i pos') X.env] := by rfl)
    (hq : ∀ v, assign (.Subscript o i pos') X.env v = (do
      let ov ← holding [v] (eval o X.env)
      let iv ← holding [v, ov] (eval i X.env)
      standAt pos'
      holding [v, ov, iv] (setItem ov iv v)
      release [v, ov, iv] []) := by intro _; rfl) : DS X Wx (.Assign [.Subscript o i pos'] v pos) (mPut os to ti tv) := by
  refine ps_imp (ps_asg hv (pg_sub ho hi hset hq) hsw hw h1) fun D σ H ⟨r, s, m, c, hE, hS, h, hc⟩ => ?_
  have hx := hc.ex.at hE
  refine ⟨r, s, m, _, _, hE, hS, h, fun y s1 k1 m1 H1 vy e1 hS1 hy => ?_, hx⟩
  refine ⟨r, s1, m1, _, _, hE.ext e1, hS1, k1, fun w s2 k2 m2 H2 vw e2 hS2 hw2 => ?_, hx.ext e1⟩
  refine ⟨r, s2, m2, _, _, (hE.ext e1).ext e2, hS2, k2, fun j s3 k3 m3 H3 vj e3 hS3 hj => ?_, (hx.ext e1).ext e2⟩
  refine hs m3 H3 s3 vw vj vy w j y _ _ hS3 (hw2.ext e3) hj ((hy.ext e2).ext e3) k3 fun s4 k4 m4 H4 e4 hS4 => ?_
  have e04 := ((e1.trans e2).trans e3).trans e4
  exact hc.nx r s4 k4 m4 H4 σ e04 hS4 (hE.ext e04)

/-! ## op= -/
/-- a name -/
def mAug (j : Nat) (op : O2) (te : ET) : ST := fun r s c => match r[j]? with
  | some (some x) => te r s (fun y s1 => op x y s1 (fun z s2 => c.nx (r.set j (some z)) s2)) (fun k fs s' => c.ex k fs r s')
  | _ => False
theorem ds_aug (j : Nat) {x : Str} {o2 : Operator} {te : ET} {ip : TIp} {op : O2} (hip : PIp X o2 ip) (hs : S2 (gx X) ip op) (he : DE X Wx e te) (hN : X.N.Nodup) (hi : X.N[j]? = some x := by rfl) (hx : Loc X.env.scope x := by first | exact Or.inl rfl | exact Or.inr rfl) (hf : X.fn x = true ∨ X.env.scope.names.lookup x = some .local := by first | exact .inl rfl | exact .inr rfl | assumption) :
    DS X Wx (.AugAssign (.Name x pos') o2 e pos) (mAug j op te) := by
  refine ps_imp (ps_aug hN hi hx he hip hf) fun D σ H ⟨r, s, m, c, hE, hS, h, hc⟩ => ?_
  unfold mAug at h
  split at h
  · rename_i w hw
    obtain ⟨v0, hv0, hr0⟩ := hE.2 j w hw
    refine ⟨v0, hv0, r, s, m, _, _, hE, hS, h, fun y s1 k1 m1 H1 vy e1 hS1 hy => ?_, hc.ex.at hE⟩
    refine hs m1 H1 s1 v0 vy w y _ _ hS1 (hr0.ext e1) hy k1 fun z s2 k2 m2 H2 vz e2 hS2 hz => ?_
    exact hc.nx _ s2 k2 m2 H2 _ (e1.trans e2) hS2 ((hE.ext (e1.trans e2)).set hz)
  · exact h.elim
/-- an item -/
def mAugS (get : O2) (op : O2) (put : OS) (to ti te : ET) : ST := fun r s c => to r s (fun w s1 => ti r s1 (fun i s2 => get w i s2 (fun x s3 => te r s3 (fun y s4 => op x y s4 (fun z s5 => put w i z s5 (fun s6 => c.nx r s6))) (fun k fs s' => c.ex k fs r s'))) (fun k fs s' => c.ex k fs r s')) (fun k fs s' => c.ex k fs r s')
theorem ds_augS {o2 : Operator} {te : ET} {tg : V → V → Hp → VK → Prop} {ip : TIp} {get op : O2} {tpos : Pos} (hg : PGet X tg) (hsg : S2 (gx X) tg get) (hip : PIp X o2 ip) (hsi : S2 (gx X) ip op) (hset : PSet X ts) (hss : SS (gx X) ts os) (ho : DE X Wx o to) (hi : DE X Wx i ti) (he : DE X Wx e te)
    (ha : ∀ ov iv new, augStore i ov iv new = (do holding [new, ov, iv] (setItem ov iv new); release [new, ov, iv] []; pure .next) := by intros; rfl) : DS X Wx (.AugAssign (.Subscript o i tpos) o2 e pos) (mAugS get op os to ti te) := by
  refine ps_imp (ps_augS ho hi hg he hip hset ha) fun D σ H ⟨r, s, m, c, hE, hS, h, hc⟩ => ?_
  have hx := hc.ex.at hE
  refine ⟨r, s, m, _, _, hE, hS, h, fun w s1 k1 m1 H1 vw e1 hS1 hw => ?_, hx⟩
  refine ⟨r, s1, m1, _, _, hE.ext e1, hS1, k1, fun j s2 k2 m2 H2 vj e2 hS2 hj => ?_, hx.ext e1⟩
  have e02 := e1.trans e2
  refine hsg m2 H2 s2 vw vj w j _ _ hS2 (hw.ext e2) hj k2 fun x s3 k3 m3 H3 vx e3 hS3 hxr => ?_
  have e03 := e02.trans e3
  refine ⟨r, s3, m3, _, _, hE.ext e03, hS3, k3, fun y s4 k4 m4 H4 vy e4 hS4 hy => ?_, hx.ext e03⟩
  refine hsi m4 H4 s4 vx vy x y _ _ hS4 (hxr.ext e4) hy k4 fun z s5 k5 m5 H5 vz e5 hS5 hz => ?_
  have e35 := (e3.trans e4).trans e5
  refine hss m5 H5 s5 vw vj vz w j z _ _ hS5 ((hw.ext e2).ext e35) (hj.ext e35) hz k5 fun s6 k6 m6 H6 e6 hS6 => ?_
  have e06 := (e02.trans e35).trans e6
  exact hc.nx r s6 k6 m6 H6 σ e06 hS6 (hE.ext e06)
def rGetL (K : PySem.W.Frag) : R2 := fun x y H Q => ∃ (p : Addr) (xs : List V) (k : Int) (v : V), x = .ref p ∧ y = .int k ∧ 0 ≤ k ∧ SqL K H p xs ∧ xs[k.toNat]? = some v ∧ Q v H
theorem pget_list : PGet X (rGetL X.K) := by
  rintro pins s σ H o i ov iv Q I ro ri ⟨p, xs, k, v, rfl, rfl, h0, hq, hv, q⟩
  cases ro
  obtain ⟨t, rfl⟩ := ri
  obtain ⟨its, r, pl, hz⟩ := I.list hq
  obtain ⟨w, ew, rw'⟩ := r.get hv
  have hl := r.length
  have hn := line63
  have hk : k.toNat < xs.length := (List.getElem?_eq_some_iff.mp hv).1
  exact wpAny_getItem_list pl.isList h0 (by omega) (by simpa using ew) ⟨v, H, I, rw', q⟩
/-- x[k], k not below 0 -/
def oGetL : O2 := fun w i s q => match lstOf w s, i with
  | some xs, .int k => 0 ≤ k ∧ match xs[k.toNat]? with
    | some y => q y s
    | none => False
  | _, _ => False
theorem s_getL : S2 G (rGetL G.K) oGetL := by
  intro m H s x y a b q Q hS ha hb h hq
  unfold oGetL at h
  split at h
  · rename_i xs k e1
    obtain ⟨p, vs, rfl, h1, k1⟩ := lst_rel hS ha e1
    simp only [RelW] at hb
    obtain ⟨h0, h⟩ := h
    split at h
    · rename_i y0 ey
      obtain ⟨v, ev, rv⟩ := k1.get ey
      exact ⟨p, vs, k, v, rfl, hb, h0, SqL.of h1, ev, hq _ s h m H v .refl hS rv⟩
    · exact h.elim
  · exact h.elim
theorem s_ip {f : Int → Int → Int} : S2 G (ipI f) (oI (fun _ _ => True) f) := by
  intro m H s x y a b q Q hS ha hb h hq
  cases a with
  | int i =>
    cases b with
    | int j =>
      simp only [RelW] at ha hb
      exact ⟨i, j, ha, hb, hq _ s h.2 m H _ .refl hS (by simp only [RelW])⟩
    | _ => exact h.elim
  | _ => exact h.elim
end
end Fw

set_option maxRecDepth 100000
set_option maxHeartbeats 4000000
namespace Fw
open PySem PySem.Spec PyProof.Rows L2

/-! ## lists and tuples as sources -/
def SqK (K : PySem.W.Frag) (H : Hp) (k : Bool) (a : Addr) (xs : List V) : Prop := match k with
  | true => SqL K H a xs
  | false => SqT K H a xs
def SrcH (k : Bool) (h : Heap) (a : Addr) (its : List Value) : Prop := match k with
  | true => h.IsList a its.toArray
  | false => h.IsTuple a its.toArray
def itObj (k : Bool) (a : Addr) : Obj := match k with
  | true => { cls := .type "list_iterator", data := .fields #[.ref a, .int 0 0] }
  | false => { cls := .type "tuple_iterator", data := .fields #[.ref a, .int 0 0] }
def ItH (k : Bool) (h : Heap) (it a : Addr) (i : Nat) : Prop := match k with
  | true => h.IsListIter it a i
  | false => h.IsTupleIter it a i
section
variable {X : Cx} {pins : List (Addr × Obj)} {σ : L2.St} {H : Hp} {s : Shared} {a : Addr} {xs ys : List V} {k : Bool}
theorem src_at (I : Inv X pins σ H s) (h : SqK X.K H k a xs) : ∃ its : List Value, Vals xs its ∧ SrcH k s.heap a its := by
  cases k with
  | true =>
    obtain ⟨its, r, p, _⟩ := I.list (show SqL X.K H a xs from h)
    exact ⟨its, r, p.isList⟩
  | false =>
    obtain ⟨its, r, p, _⟩ := I.tuple (show SqT X.K H a xs from h)
    exact ⟨its, r, p⟩
theorem src_lt {h : Heap} {its : List Value} (e : SrcH k h a its) : a < h.objs.size := by
  cases k with
  | true => obtain ⟨_, q, _⟩ := (show h.IsList a its.toArray from e); exact Heap.lt_size q
  | false => obtain ⟨_, q, _⟩ := (show h.IsTuple a its.toArray from e); exact Heap.lt_size q
theorem src_inj (I : Inv X pins σ H s) (h : SqK X.K H k a xs) (h' : SqK X.K H k a ys) : xs = ys := by
  cases k with
  | true => exact I.list_inj (show SqL X.K H a xs from h) h'
  | false => exact I.tuple_inj (show SqT X.K H a xs from h) h'
theorem it_obj {h : Heap} {it : Addr} {i : Nat} (e : ItH k h it a i) : ∃ o, h.get? it = some o ∧ ∀ v, o.data ≠ .cell v := by
  cases k with
  | true =>
    obtain ⟨o, h1, _, h2⟩ := (show h.IsListIter it a i from e)
    exact ⟨o, h1, fun v z => by rw [h2] at z; cases z⟩
  | false =>
    obtain ⟨o, h1, _, h2⟩ := (show h.IsTupleIter it a i from e)
    exact ⟨o, h1, fun v z => by rw [h2] at z; cases z⟩
theorem it_keep {h h' : Heap} {it : Addr} {i : Nat} (e : ItH k h it a i) (hk : ∀ o, h.get? it = some o → h'.get? it = some o) : ItH k h' it a i := by
  cases k with
  | true => exact (show h.IsListIter it a i from e).at hk
  | false => exact (show h.IsTupleIter it a i from e).at hk
theorem draws_k {prog : Program} {w : World} {A : Around} (hh : A.handled = none) (it : Addr) (hne : a ≠ it) (its : List Value) :
    Draws prog w A it [it, a] its.length (fun i v => its[i]? = some v) (fun i h => ItH k h it a i ∧ SrcH k h a its) := by
  cases k with
  | true => simpa [ItH, SrcH] using Draws.list (prog := prog) (w := w) hh it a hne its.toArray
  | false => simpa [ItH, SrcH] using Draws.tuple (prog := prog) (w := w) hh it a hne its.toArray
theorem begins_k (its : List Value) : Begins (.ref a) (itObj k a) (fun h => SrcH k h a its) := by
  cases k with
  | true => exact begins_list a its.toArray
  | false => exact begins_tuple a its.toArray
theorem it_new {h : Heap} {it : Addr} (e : h.get? it = some (itObj k a)) : ItH k h it a 0 := by
  cases k with
  | true => exact ⟨_, e, rfl, rfl⟩
  | false => exact ⟨_, e, rfl, rfl⟩
end

/-! ## enumerate(x) -/
set_option maxHeartbeats 4000000 in
theorem meets_enum1 {v : Value} {o : Obj} {H : Heap → Prop} (B : Begins v o H) :
    Meets (Builtin.«enumerate.__new__» ⟨[.type "enumerate", v], []⟩) (fun _ R s => H s.heap ∧
      R (.ok (.ret (.ref (s.heap.push o).objs.size))) { s with heap := (s.heap.push o).push { cls := .type "enumerate", data := .fields #[.none, .bool false, .ref s.heap.objs.size, rawInt 0, .none, .none] } }) := by
  refine .of_wp ?_
  rintro prog w A R ⟨hp, g, d, tk, os⟩ ⟨h1, h⟩
  have hsub := sub_enumerate
  have q1 : ∀ {A' : Around} {E : Value → Shared → Prop} {Q : Value → Shared → Prop}, Q (.ref hp.objs.size) ⟨hp.push o, g, d, tk, os⟩ → wpAny (model prog w) A' (pyIter v) Q E ⟨hp, g, d, tk, os⟩ :=
    fun {A' E Q} z => B.iter prog w A' E ⟨hp, g, d, tk, os⟩ Q h1 z
  wp_walk using q1
  refine wpAny_stack_any (fun st => wpAny_pure ?_)
  split
  · rename_i c _ _ _ _ _
    cases hc : (c == Value.type "enumerate") <;> (wp_walk using q1; exact ⟨_, rfl, h⟩)
  · wp_walk using q1; exact ⟨_, rfl, h⟩
theorem enum1 {prog : Program} {w : World} {A : Around} {E : Value → Shared → Prop} {s : Shared} {v : Value} {o : Obj} {H : Heap → Prop} {Q : Value → Shared → Prop} (B : Begins v o H) (h1 : H s.heap)
    (h : ∀ h', IsEnum h' (s.heap.objs.size + 1) s.heap.objs.size 0 .none → h'.get? s.heap.objs.size = some o → (∀ b u, s.heap.get? b = some u → h'.get? b = some u) → Q (.ref (s.heap.objs.size + 1)) { s with heap := h' }) :
    wpAny (model prog w) A (call (.type "enumerate") [v]) Q E s := by
  refine callType_new F.called_enumerate (by decide) (F.typeCall_enumerate_1 _) (F.newCall_enumerate_1 _) (fun obj => F.args_object_init_2 obj _) F.entry_enumerate_new (meets_enum1 B) ⟨h1, ?_⟩
  have hz : (s.heap.push o).objs.size = s.heap.objs.size + 1 := Heap.size_push ..
  show _ ∧ _
  rw [hz]
  have he := Heap.get?_push_size (s.heap.push o) (o := ({ cls := .type "enumerate", data := .fields #[.none, .bool false, .ref s.heap.objs.size, rawInt 0, .none, .none] } : Obj)) rfl
  rw [hz] at he
  have he' : IsEnum ((s.heap.push o).push ({ cls := .type "enumerate", data := .fields #[.none, .bool false, .ref s.heap.objs.size, rawInt 0, .none, .none] } : Obj)) (s.heap.objs.size + 1) s.heap.objs.size 0 .none := he
  exact ⟨⟨_, he', rfl⟩, h _ he' (Heap.get?_push_of_some _ (Heap.get?_push_size _ B.free)) (fun b u z => Heap.get?_push_of_some _ (Heap.get?_push_of_some _ z))⟩
def JEn (K : PySem.W.Frag) (k : Bool) (a : Addr) : It where
  go := fun i H => ∃ (xs : List V) (x : V), SqK K H k a xs ∧ xs[i]? = some x
  yld := fun i H v H' => ∃ T x, v = .ref T ∧ H T = none ∧ H' = upd H T (.tup [.int (i : Nat), x]) ∧ ∀ xs, SqK K H k a xs → xs[i]? = some x
  stop := fun i H => ∃ xs : List V, SqK K H k a xs ∧ i = xs.length
theorem turn_en {P : Program} {w : World} {K : PySem.W.Frag} {elts : List Expr} {kk : Nat} {tpos : Pos} {k : Bool} (a e it : Addr) (h1 : e ≠ it) (h2 : e ≠ a) (h3 : a ≠ it) :
    Turn P w K (.Tuple elts kk tpos) (JEn K k a) [e, it] e (fun i h => (∃ old, IsEnum h e it (i : Nat) old) ∧ ItH k h it a i) where
  mem := List.mem_cons_self
  obj := by
    rintro i h ⟨⟨old, he⟩, hi⟩ b hb
    rcases List.mem_cons.mp hb with rfl | hb
    · exact ⟨_, he, fun v z => nomatch z⟩
    · rw [List.mem_singleton.mp hb]; exact it_obj hi
  keep := by
    rintro i h h' ⟨⟨old, he⟩, hi⟩ hk
    exact ⟨⟨old, hk e (by simp) _ he⟩, it_keep hi (fun o z => hk it (by simp) o z)⟩
  item := by
    rintro X rfl rfl rfl hc i pins s σ H E I hf ⟨⟨old, he⟩, hi⟩ ⟨xs, x, hq, hx⟩
    obtain ⟨its, rv, hs⟩ := src_at I hq
    obtain ⟨u, hu, ru⟩ := rv.get hx
    have D := draws_k (k := k) (prog := X.prog) (w := X.w) (A := X.A.in1) (show X.A.in1.handled = none from I.ok.hd hc) it h3 its
    have N := GoesN.enumFrom (elts := elts) (x1 := kk) (pos := tpos) 0 D e h1 (by simp [h1, h2]) (by simp)
    have hlt : i < its.length := (List.getElem?_eq_some_iff.mp hu).1
    refine N.goes i s _ E hlt ⟨⟨old, by simpa using he⟩, hi, hs⟩ (fun v h' tk ⟨T, t, x', ev, hT, hx', tup⟩ ⟨⟨old', he'⟩, hi', _⟩ keep _ => ?_)
    rw [hu] at hx'
    cases hx'
    subst ev
    have tup' : IsTup h' T ([.int (i : Int) t, u] : List Value).toArray := by simpa [IsTup, Heap.IsTuple] using tup
    have new : ObjOk X.prog X.w (upd H T (.tup [.int (i : Nat), x])) h' T (.tup [.int (i : Nat), x]) :=
      ⟨by show 2 ≤ sizeLine; decide, _, .cons ⟨t, rfl⟩ (.cons ru .nil), tup'⟩
    have J := I.turnedNew (t' := tk) (ch := [e, it]) keep hf hT new
    have hfr := I.hok.fresh hT
    refine ⟨.ref T, _, J, rfl, ⟨T, x, rfl, hfr, rfl, fun zs hz => by rw [src_inj I hz hq]; exact hx⟩, ⟨⟨old', by simpa using he'⟩, hi'⟩, fun b hb => ?_⟩
    have hb' : b < s.heap.objs.size := by
      rcases List.mem_cons.mp hb with rfl | hb
      · exact Heap.lt_size he
      · rw [List.mem_singleton.mp hb]
        obtain ⟨o, ho, _⟩ := it_obj hi
        exact Heap.lt_size ho
    rw [upd_ne (Nat.ne_of_lt (Nat.lt_of_lt_of_le hb' hT))]
    exact (hf b hb).1
  done := by
    rintro X rfl rfl rfl hc i pins s σ H E I hf ⟨⟨old, he⟩, hi⟩ ⟨xs, hq, hx⟩
    subst hx
    obtain ⟨its, rv, hs⟩ := src_at I hq
    have hl := rv.length
    obtain ⟨f0, f1, f2, f3, f4, f5⟩ := hf it (by simp)
    have D := draws_k (k := k) (prog := X.prog) (w := X.w) (A := X.A.in1) (show X.A.in1.handled = none from I.ok.hd hc) it h3 its
    exact wpAny_pyNext_enum_endD D he ⟨by rw [← hl]; exact hi, hs⟩ (fun h' eb => ⟨rfl, I.turned (t' := s.toks) (fun b o hb q => eb b o hb q) f0 f1 f3 f4 f5⟩)
  self := fun A i s Q E ⟨⟨_, he⟩, _⟩ h => wpAny_pyIter_enum he h
theorem pi_en {X : Cx} {e : Expr} {ta : TA} {p pos tpos : Pos} {elts : List Expr} {kk : Nat} (hm : X.mg "enumerate" = none) (ha : PA X [e] ta) (hg : Gl X "enumerate" := by rfl) (hs : starEach [e] X.env = [(false, eval e X.env)] := by rfl) :
    PI X (.Tuple elts kk tpos) (.Call (.Name "enumerate" p) [e] [] pos) (fun σ H R => ta σ H fun vs H1 => ∃ k a xs, vs = [.ref a] ∧ SqK X.K H1 k a xs ∧ R (JEn X.K k a) H1) := by
  constructor
  intro pins s σ H R I h
  refine Call_ (ld_blt I hg hm boot_enumerate (PyProof.Rows.callWith_type1 (thn (ha.run pos pins s σ H _ I h) ?_) hs rfl))
  rintro us s1 ⟨vs, H1, I1, r1, k, a, xs, rfl, hq, q⟩
  obtain ⟨u, rfl, ru⟩ := vals1 r1
  obtain rfl : u = Value.ref a := ru
  obtain ⟨its, rv, hsrc⟩ := src_at I1 hq
  have hlt := src_lt hsrc
  refine enum1 (begins_k (k := k) its) hsrc (fun h' he hi hk => wpAny_pyIter_enum he ?_)
  refine ⟨s1.heap.objs.size + 1, [s1.heap.objs.size + 1, s1.heap.objs.size], _, _, H1, rfl, I1.kept (t' := s1.toks) hk, turn_en (k := k) a (s1.heap.objs.size + 1) s1.heap.objs.size (Nat.succ_ne_self _) (Nat.ne_of_gt (Nat.lt_succ_of_lt hlt)) (Nat.ne_of_lt hlt), ⟨⟨.none, he⟩, it_new hi⟩, fun b hb => ?_, q⟩
  have hb' : s1.heap.objs.size ≤ b := by
    rcases List.mem_cons.mp hb with rfl | hb
    · exact Nat.le_succ _
    · rw [List.mem_singleton.mp hb]; exact Nat.le_refl _
  exact I1.fpOk hb' (I1.hok.fresh hb')
/-- the pairs of places and items -/
def enumW (xs : List W) : List W := xs.mapIdx fun (i : Nat) x => .tup [.int (i : Int), x]
def liveOf (w : W) (xs : List W) : Live := match w with
  | .ref n => [(n, xs)]
  | _ => []
def mEnum (tl : LT) : IT := fun r s q e => tl r s (fun ws s1 => match ws with
  | [w] => match seqVals w s1 with
    | some xs => q (enumW xs) (liveOf w xs) s1
    | none => False
  | _ => False) e
/-- a list or a tuple while it stands still -/
theorem still {G : Gx} {m : Mu} {H : Hp} {s : S} (hS : RelS G m H s) {w : W} {v : V} (h : RelW G m H w v) {ws : List W} (e : seqVals w s = some ws) :
    ∃ (k : Bool) (a : Addr), v = .ref a ∧ (∃ vs, SqK G.K H k a vs) ∧ ∀ m' H' s', Ext m H m' H' → RelS G m' H' s' → okL (liveOf w ws) s' → ∃ vs, SqK G.K H' k a vs ∧ RelWs G m' H' ws vs := by
  cases w with
  | tup xs =>
    simp only [seqVals, itemsOf, Option.some.injEq] at e; subst e
    simp only [RelW] at h
    obtain ⟨a, vs, rfl, h1, h2⟩ := h
    exact ⟨false, a, rfl, ⟨vs, h1.sq⟩, fun m' H' s' ex _ _ => ⟨vs, (h1.ext ex).sq, h2.ext ex⟩⟩
  | lst xs =>
    simp only [seqVals, itemsOf, Option.some.injEq] at e; subst e
    simp only [RelW] at h
    obtain ⟨a, vs, rfl, h1, h2⟩ := h
    exact ⟨true, a, rfl, ⟨vs, h1.sq (K := G.K)⟩, fun m' H' s' ex _ _ => ⟨vs, (h1.ext ex).sq (K := G.K), h2.ext ex⟩⟩
  | scr is =>
    simp only [seqVals, Option.some.injEq] at e; subst e
    simp only [RelW] at h
    obtain ⟨a, rfl, h1⟩ := h
    exact ⟨true, a, rfl, ⟨_, h1.sq⟩, fun m' H' s' ex _ _ => ⟨_, (h1.keeps ex.keeps).sq, RelWs.ints⟩⟩
  | ref n =>
    have hx : s[n]? = some (.lst ws) := by
      simp only [seqVals, itemsOf] at e
      split at e
      · rename_i q; cases e; exact q
      · cases e
    simp only [RelW] at h
    obtain ⟨a, rfl, ha⟩ := h
    obtain ⟨b, hb, vs, h1, h2⟩ := hS.cell n _ hx
    rw [ha] at hb; cases hb
    refine ⟨true, a, rfl, ⟨vs, SqL.of h1⟩, fun m' H' s' ex hS' hl => ?_⟩
    obtain ⟨b, hb, us, k1, k2⟩ := hS'.cell n _ (hl (n, ws) (by simp [liveOf]))
    rw [ex.at ha] at hb; cases hb
    exact ⟨us, SqL.of k1, k2⟩
  | _ => simp [seqVals, itemsOf] at e
theorem feeds_en {G : Gx} {m : Mu} {H : Hp} {k : Bool} {a : Addr} {xs : List W} {l : Live} (h : ∀ m' H' s', Ext m H m' H' → RelS G m' H' s' → okL l s' → ∃ vs, SqK G.K H' k a vs ∧ RelWs G m' H' xs vs) : Feeds G m H (JEn G.K k a) (enumW xs) l := by
  intro m' H' s' ex hS hl i
  obtain ⟨vs, q, rel⟩ := h m' H' s' ex hS hl
  refine ⟨fun hi => ⟨vs, q, by rw [hi, ← rel.length]; simp [enumW]⟩, fun hi => ?_⟩
  have hi' : i < xs.length := by simpa [enumW] using hi
  obtain ⟨v, hv, hr⟩ := rel.get (List.getElem?_eq_getElem hi')
  refine ⟨⟨vs, v, q, hv⟩, ?_⟩
  rintro x H2 ⟨T, y, rfl, hT, rfl, hy⟩
  have hvy := hy vs q
  rw [hv] at hvy
  cases hvy
  refine ⟨Ext.aside hT, hS.aside hT, .tup [.int (i : Int), xs[i]], by simp [enumW, hi'], ?_⟩
  exact rel_newTup hS (.cons (by simp only [RelW]) (.cons hr .nil)) hT
theorem di_enum {X : Cx} {Wx : WX} {e : Expr} {tl : LT} {p pos tpos : Pos} {elts : List Expr} {kk : Nat} (hm : X.mg "enumerate" = none) (ha : DA X Wx [e] tl) (hg : Gl X "enumerate" := by rfl) (hs : starEach [e] X.env = [(false, eval e X.env)] := by rfl) :
    DI X Wx (.Tuple elts kk tpos) (.Call (.Name "enumerate" p) [e] [] pos) (mEnum tl) := by
  refine pi_imp (pi_en hm ha hg hs) fun σ H R ⟨r, s, m, q, e, hE, hS, h, hR, hx⟩ => ?_
  refine ⟨r, s, m, _, e, hE, hS, h, fun ws s1 k m1 H1 vs e1 hS1 hv => ?_, hx⟩
  dsimp only at k
  split at k
  · rename_i w
    obtain ⟨v, rfl, hw⟩ := hv.one
    split at k
    · rename_i xs ex
      obtain ⟨b, a, rfl, ⟨us, hu⟩, hk⟩ := still hS1 hw ex
      exact ⟨b, a, us, rfl, hu, hR _ _ s1 k m1 H1 _ e1 hS1 (feeds_en hk)⟩
    · exact k.elim
  · exact k.elim

/-! ## zip(x, y) -/
def JZ (K : PySem.W.Frag) (k l : Bool) (a b : Addr) : It where
  go := fun i H => ∃ (xs ys : List V) (x y : V), SqK K H k a xs ∧ SqK K H l b ys ∧ xs[i]? = some x ∧ ys[i]? = some y
  yld := fun i H v H' => ∃ T x y, v = .ref T ∧ H T = none ∧ H' = upd H T (.tup [x, y]) ∧ (∀ xs, SqK K H k a xs → xs[i]? = some x) ∧ ∀ ys, SqK K H l b ys → ys[i]? = some y
  stop := fun i H => ∃ xs ys : List V, SqK K H k a xs ∧ SqK K H l b ys ∧ i = min xs.length ys.length
structure ZAp (z TI TO i1 i2 a b : Addr) : Prop where
  n : (z ≠ TI ∧ z ≠ TO ∧ z ≠ i1 ∧ z ≠ i2 ∧ z ≠ a ∧ z ≠ b) ∧ (TI ≠ TO ∧ TI ≠ i1 ∧ TI ≠ i2) ∧ (TO ≠ i1 ∧ TO ≠ i2 ∧ TO ≠ a ∧ TO ≠ b) ∧ i1 ≠ i2 ∧ i1 ≠ a ∧ i1 ≠ b ∧ i2 ≠ a ∧ i2 ≠ b
theorem ZAp.sep {z TI TO i1 i2 a b : Addr} (D : ZAp z TI TO i1 i2 a b) : ZipSep2 z TI TO i1 i2 [i1, a] [i2, b] := by
  obtain ⟨⟨z1, z2, z3, z4, z5, z6⟩, ⟨t1, t2, t3⟩, ⟨o1, o2, o3, o4⟩, n1, n2, n3, n4, n5⟩ := D.n
  exact { TIz := Ne.symm z1, TOz := Ne.symm z2, TITO := t1, TIi1 := t2, mem1 := by simp, zf1 := by simp [z3, z5], Tf1 := by simp [o1, o3], TIi2 := t3, mem2 := by simp, zf2 := by simp [z4, z6], Tf2 := by simp [o2, o4], sep1_2 := by simp [n1, n3], sep2_1 := by simp [Ne.symm n1, n4] }
theorem turn_z {P : Program} {w : World} {K : PySem.W.Frag} {elts : List Expr} {kk : Nat} {tpos : Pos} {k l : Bool} {a b z TI TO i1 i2 : Addr} (D : ZAp z TI TO i1 i2 a b) :
    Turn P w K (.Tuple elts kk tpos) (JZ K k l a b) [z, TI, TO, i1, i2] z (fun i h => IsZip h z TI TO .none ∧ IsTupOf2 h TI (.ref i1) (.ref i2) ∧ (∃ a1 a2, IsTupOf2 h TO a1 a2) ∧ ItH k h i1 a i ∧ ItH l h i2 b i) where
  mem := List.mem_cons_self
  obj := by
    rintro i h ⟨hz, hI, ⟨a1, a2, hO⟩, hi1, hi2⟩ c hc
    simp only [List.mem_cons, List.not_mem_nil, or_false] at hc
    rcases hc with rfl | rfl | rfl | rfl | rfl
    · exact ⟨_, hz, fun v q => nomatch q⟩
    · exact ⟨_, hI, fun v q => nomatch q⟩
    · exact ⟨_, hO, fun v q => nomatch q⟩
    · exact it_obj hi1
    · exact it_obj hi2
  keep := by
    rintro i h h' ⟨hz, hI, ⟨a1, a2, hO⟩, hi1, hi2⟩ hk
    exact ⟨hk z (by simp) _ hz, hk TI (by simp) _ hI, ⟨a1, a2, hk TO (by simp) _ hO⟩, it_keep hi1 (fun o q => hk i1 (by simp) o q), it_keep hi2 (fun o q => hk i2 (by simp) o q)⟩
  item := by
    rintro X rfl rfl rfl hc i pins s σ H E I hf ⟨hz, hI, ⟨a1, a2, hO⟩, hi1, hi2⟩ ⟨xs, ys, x, y, hqx, hqy, hx, hy⟩
    obtain ⟨its, rv, hs⟩ := src_at I hqx
    obtain ⟨its2, rv2, hs2⟩ := src_at I hqy
    obtain ⟨u, hu, ru⟩ := rv.get hx
    obtain ⟨u2, hu2, ru2⟩ := rv2.get hy
    have hcal : X.A.in1.handled = none := I.ok.hd hc
    have D1 := draws_k (k := k) (prog := X.prog) (w := X.w) (A := X.A.in1) hcal i1 (Ne.symm D.n.2.2.2.2.1) its
    have D2 := draws_k (k := l) (prog := X.prog) (w := X.w) (A := X.A.in1) hcal i2 (Ne.symm D.n.2.2.2.2.2.2.2) its2
    have N := GoesN.zip2 (elts := elts) (x1 := kk) (pos := tpos) D.sep D1 D2
    have l1 : i < its.length := (List.getElem?_eq_some_iff.mp hu).1
    have l2 : i < its2.length := (List.getElem?_eq_some_iff.mp hu2).1
    refine N.goes i s _ E (by omega) ⟨hz, hI, ⟨a1, a2, hO⟩, ⟨hi1, hs⟩, ⟨hi2, hs2⟩⟩ (fun v h' tk ⟨T, x', y', ev, hT, hx', hy', tup⟩ ⟨hz', hI', hO', ⟨hi1', _⟩, ⟨hi2', _⟩⟩ keep _ => ?_)
    rw [hu] at hx'
    rw [hu2] at hy'
    cases hx'
    cases hy'
    subst ev
    have tup' : IsTup h' T ([u, u2] : List Value).toArray := by simpa [IsTup, Heap.IsTuple] using tup
    have new : ObjOk X.prog X.w (upd H T (.tup [x, y])) h' T (.tup [x, y]) :=
      ⟨by show 2 ≤ sizeLine; decide, _, .cons ru (.cons ru2 .nil), tup'⟩
    have J := I.turnedNew (t' := tk) (ch := [z, TO, i1, i2]) keep (fun c hcm => hf c (by simp only [List.mem_cons, List.not_mem_nil, or_false] at hcm ⊢; rcases hcm with h | h | h | h <;> simp [h])) hT new
    have hfr := I.hok.fresh hT
    refine ⟨.ref T, _, J, rfl, ⟨T, x, y, rfl, hfr, rfl, fun zs hz => by rw [src_inj I hz hqx]; exact hx, fun zs hz => by rw [src_inj I hz hqy]; exact hy⟩, ⟨hz', hI', hO', hi1', hi2'⟩, fun c hcm => ?_⟩
    have hc' : c < s.heap.objs.size := by
      simp only [List.mem_cons, List.not_mem_nil, or_false] at hcm
      rcases hcm with rfl | rfl | rfl | rfl | rfl
      · exact Heap.lt_size hz
      · exact Heap.lt_size hI
      · exact Heap.lt_size hO
      · obtain ⟨o, ho, _⟩ := it_obj hi1; exact Heap.lt_size ho
      · obtain ⟨o, ho, _⟩ := it_obj hi2; exact Heap.lt_size ho
    rw [upd_ne (Nat.ne_of_lt (Nat.lt_of_lt_of_le hc' hT))]
    exact (hf c hcm).1
  done := by
    rintro X rfl rfl rfl hc i pins s σ H E I hf ⟨hz, hI, ⟨a1, a2, hO⟩, hi1, hi2⟩ ⟨xs, ys, hqx, hqy, hx⟩
    obtain ⟨its, rv, hs⟩ := src_at I hqx
    obtain ⟨its2, rv2, hs2⟩ := src_at I hqy
    have hcal : X.A.in1.handled = none := I.ok.hd hc
    have D1 := draws_k (k := k) (prog := X.prog) (w := X.w) (A := X.A.in1) hcal i1 (Ne.symm D.n.2.2.2.2.1) its
    have D2 := draws_k (k := l) (prog := X.prog) (w := X.w) (A := X.A.in1) hcal i2 (Ne.symm D.n.2.2.2.2.2.2.2) its2
    have N := GoesN.zip2 (elts := elts) (x1 := kk) (pos := tpos) D.sep D1 D2
    have e1 := rv.length
    have e2 := rv2.length
    have ei : i = min its.length its2.length := by rw [hx, e1, e2]
    rw [ei] at hi1 hi2
    exact N.stops s _ E ⟨hz, hI, ⟨a1, a2, hO⟩, ⟨hi1, hs⟩, ⟨hi2, hs2⟩⟩ (fun h' tk keep _ => I.turnedL (t' := tk) (ch := [z, TO, i1, i2]) keep (fun c hcm => hf c (by simp only [List.mem_cons, List.not_mem_nil, or_false] at hcm ⊢; rcases hcm with h | h | h | h <;> simp [h])))
  self := fun A i s Q E ⟨hz, _⟩ h => wpAny_pyIter_zip hz h
theorem natNe {a b : Nat} (h : a < b ∨ b < a) : a ≠ b := by omega
theorem zap (n a b : Nat) (ha : a < n) (hb : b < n) : ZAp (n + 4) (n + 2) (n + 3) n (n + 1) a b := ⟨by
  refine ⟨⟨?_, ?_, ?_, ?_, ?_, ?_⟩, ⟨?_, ?_, ?_⟩, ⟨?_, ?_, ?_, ?_⟩, ?_, ?_, ?_, ?_, ?_⟩ <;> exact natNe (by omega)⟩
theorem pi_z {X : Cx} {e e2 : Expr} {ta : TA} {p pos tpos : Pos} {elts : List Expr} {kk : Nat} (hm : X.mg "zip" = none) (ha : PA X [e, e2] ta) (hg : Gl X "zip" := by rfl) (hs : starEach [e, e2] X.env = (false, eval e X.env) :: starEach [e2] X.env := by rfl) (hpl : (backTo pos (starEach [e2] X.env)).any (·.1) = false := by rfl) :
    PI X (.Tuple elts kk tpos) (.Call (.Name "zip" p) [e, e2] [] pos) (fun σ H R => ta σ H fun vs H1 => ∃ k l a b xs ys, vs = [.ref a, .ref b] ∧ SqK X.K H1 k a xs ∧ SqK X.K H1 l b ys ∧ R (JZ X.K k l a b) H1) := by
  constructor
  intro pins s σ H R I h
  refine Call_ (ld_blt I hg hm PyProof.Rows.boot_zip (PyProof.Rows.callWith_type1 (thn (ha.run pos pins s σ H _ I h) ?_) hs hpl))
  rintro us s1 ⟨vs, H1, I1, r1, k, l, a, b, xs, ys, rfl, hqx, hqy, q⟩
  obtain ⟨u, u2, rfl, ru, ru2⟩ := vals2 r1
  obtain rfl : u = Value.ref a := ru
  obtain rfl : u2 = Value.ref b := ru2
  obtain ⟨its, rv, hs1⟩ := src_at I1 hqx
  obtain ⟨its2, rv2, hs2⟩ := src_at I1 hqy
  refine zip_begins2 (begins_k (k := k) its) (begins_k (k := l) its2) hs1 hs2 (fun h' hz hI hO h1 h2 hsz hk => wpAny_pyIter_zip hz ?_)
  refine ⟨s1.heap.objs.size + 4, [s1.heap.objs.size + 4, s1.heap.objs.size + 2, s1.heap.objs.size + 3, s1.heap.objs.size, s1.heap.objs.size + 1], _, _, H1, rfl, I1.kept (t' := s1.toks) hk, turn_z (zap _ a b (src_lt hs1) (src_lt hs2)), ⟨hz, hI, ⟨_, _, hO⟩, it_new h1, it_new h2⟩, fun c hc => ?_, q⟩
  have hc' : s1.heap.objs.size ≤ c := by
    simp only [List.mem_cons, List.not_mem_nil, or_false] at hc
    rcases hc with rfl | rfl | rfl | rfl | rfl
    · exact Nat.le_add_right _ _
    · exact Nat.le_add_right _ _
    · exact Nat.le_add_right _ _
    · exact Nat.le_refl _
    · exact Nat.le_add_right _ _
  exact I1.fpOk hc' (I1.hok.fresh hc')
def zipW : List W → List W → List W
  | x :: xs, y :: ys => .tup [x, y] :: zipW xs ys
  | _, _ => []
theorem zipW_length : ∀ (xs ys : List W), (zipW xs ys).length = min xs.length ys.length
  | [], _ => by simp [zipW]
  | _ :: _, [] => by simp [zipW]
  | x :: xs, y :: ys => by simp [zipW, zipW_length xs ys]
theorem zipW_get : ∀ (xs ys : List W) (i : Nat) (x y : W), xs[i]? = some x → ys[i]? = some y → (zipW xs ys)[i]? = some (.tup [x, y])
  | [], _, i, x, y, h, _ => by simp at h
  | _ :: _, [], i, x, y, _, h => by simp at h
  | a :: xs, b :: ys, 0, x, y, h, k => by simp at h k; subst h k; simp [zipW]
  | a :: xs, b :: ys, i + 1, x, y, h, k => by
    simp only [zipW, List.getElem?_cons_succ] at *
    exact zipW_get xs ys i x y h k
def mZip (tl : LT) : IT := fun r s q e => tl r s (fun ws s1 => match ws with
  | [a, b] => match seqVals a s1, seqVals b s1 with
    | some xs, some ys => q (zipW xs ys) (liveOf a xs ++ liveOf b ys) s1
    | _, _ => False
  | _ => False) e
theorem feeds_z {G : Gx} {m : Mu} {H : Hp} {k l : Bool} {a b : Addr} {xs ys : List W} {lv : Live} (h : ∀ m' H' s', Ext m H m' H' → RelS G m' H' s' → okL lv s' → ∃ vs, SqK G.K H' k a vs ∧ RelWs G m' H' xs vs)
    (h2 : ∀ m' H' s', Ext m H m' H' → RelS G m' H' s' → okL lv s' → ∃ vs, SqK G.K H' l b vs ∧ RelWs G m' H' ys vs) : Feeds G m H (JZ G.K k l a b) (zipW xs ys) lv := by
  intro m' H' s' ex hS hl i
  obtain ⟨vs, q, rel⟩ := h m' H' s' ex hS hl
  obtain ⟨us, q2, rel2⟩ := h2 m' H' s' ex hS hl
  refine ⟨fun hi => ⟨vs, us, q, q2, by rw [hi, zipW_length, rel.length, rel2.length]⟩, fun hi => ?_⟩
  rw [zipW_length] at hi
  have i1 : i < xs.length := by omega
  have i2 : i < ys.length := by omega
  obtain ⟨v, hv, hr⟩ := rel.get (List.getElem?_eq_getElem i1)
  obtain ⟨u, hu, hr2⟩ := rel2.get (List.getElem?_eq_getElem i2)
  refine ⟨⟨vs, us, v, u, q, q2, hv, hu⟩, ?_⟩
  rintro x H2 ⟨T, y, z, rfl, hT, rfl, hy, hz⟩
  have hvy := hy vs q
  rw [hv] at hvy
  cases hvy
  have huz := hz us q2
  rw [hu] at huz
  cases huz
  exact ⟨Ext.aside hT, hS.aside hT, _, zipW_get xs ys i _ _ (List.getElem?_eq_getElem i1) (List.getElem?_eq_getElem i2), rel_newTup hS (.cons hr (.cons hr2 .nil)) hT⟩
theorem okL_l {l l2 : Live} {s : S} (h : okL (l ++ l2) s) : okL l s := fun p hp => h p (List.mem_append_left _ hp)
theorem okL_r {l l2 : Live} {s : S} (h : okL (l ++ l2) s) : okL l2 s := fun p hp => h p (List.mem_append_right _ hp)
theorem di_zip {X : Cx} {Wx : WX} {e e2 : Expr} {tl : LT} {p pos tpos : Pos} {elts : List Expr} {kk : Nat} (hm : X.mg "zip" = none) (ha : DA X Wx [e, e2] tl) (hg : Gl X "zip" := by rfl) (hs : starEach [e, e2] X.env = (false, eval e X.env) :: starEach [e2] X.env := by rfl) (hpl : (backTo pos (starEach [e2] X.env)).any (·.1) = false := by rfl) :
    DI X Wx (.Tuple elts kk tpos) (.Call (.Name "zip" p) [e, e2] [] pos) (mZip tl) := by
  refine pi_imp (pi_z hm ha hg hs hpl) fun σ H R ⟨r, s, m, q, e, hE, hS, h, hR, hx⟩ => ?_
  refine ⟨r, s, m, _, e, hE, hS, h, fun ws s1 k m1 H1 vs e1 hS1 hv => ?_, hx⟩
  dsimp only at k
  split at k
  · rename_i w w2
    obtain ⟨v, v2, rfl, hw, hw2⟩ := hv.two
    split at k
    · rename_i xs ys ex ey
      obtain ⟨b, a, rfl, ⟨us, hu⟩, hk⟩ := still hS1 hw ex
      obtain ⟨b2, a2, rfl, ⟨us2, hu2⟩, hk2⟩ := still hS1 hw2 ey
      exact ⟨b, b2, a, a2, us, us2, rfl, hu, hu2, hR _ _ s1 k m1 H1 _ e1 hS1 (feeds_z (fun m' H' s' ex hS' hl => hk m' H' s' ex hS' (okL_l hl)) (fun m' H' s' ex hS' hl => hk2 m' H' s' ex hS' (okL_r hl)))⟩
    · exact k.elim
  · exact k.elim
end Fw

set_option maxRecDepth 100000
set_option maxHeartbeats 4000000
namespace Fw
open PySem PySem.Spec PyProof.Rows L2

/-! ## targets, names and items among them -/
abbrev GT := W → Lv → S → (Lv → S → Prop) → (Str → Fl → Lv → S → Prop) → Prop
abbrev GTs := List W → Lv → S → (Lv → S → Prop) → (Str → Fl → Lv → S → Prop) → Prop
def gtNm (i : Nat) : GT := fun w r s q _ => q (r.set i (some w)) s
def gtNil : GTs := fun ws r s q _ => ws = [] ∧ q r s
def gtCons (g : GT) (gs : GTs) : GTs := fun ws r s q e => match ws with
  | [] => False
  | w :: ws => g w r s (fun r1 s1 => gs ws r1 s1 q e) e
def gtTp (n : Nat) (gs : GTs) : GT := fun w r s q e => match itemsOf w s with
  | some ws => ws.length = n ∧ gs ws r s q e
  | none => False
def gtSub (op : OS) (to ti : ET) : GT := fun y r s q e => to r s (fun w s2 => ti r s2 (fun i s3 => op w i y s3 (fun s4 => q r s4)) (fun k fs s' => e k fs r s')) (fun k fs s' => e k fs r s')
def tG (G : Gx) (Wx : WX) (g : GT) : TG := fun v σ H Q => ∃ r s m w q e, RelE G m H r σ ∧ RelS G m H s ∧ RelW G m H w v ∧ g w r s q e ∧ Kn G m H q Q ∧ Ke G m H Wx e
def tGs (G : Gx) (Wx : WX) (g : GTs) : TGs := fun vs σ H Q => ∃ r s m ws q e, RelE G m H r σ ∧ RelS G m H s ∧ RelWs G m H ws vs ∧ g ws r s q e ∧ Kn G m H q Q ∧ Ke G m H Wx e
abbrev DG (X : Cx) (Wx : WX) (tg : Expr) (g : GT) : Prop := PG X tg (tG (gx X) Wx g)
abbrev DGs (X : Cx) (Wx : WX) (tgs : List Expr) (g : GTs) : Prop := PGs X tgs (tGs (gx X) Wx g)
theorem pg_imp {X : Cx} {tg : Expr} {t u : TG} (h : PG X tg t) (k : ∀ v σ H Q, u v σ H Q → t v σ H Q) : PG X tg u := ⟨fun p s σ H v w Q I r q => h.run p s σ H v w Q I r (k v σ H Q q)⟩
theorem pgs_imp {X : Cx} {tg : List Expr} {t u : TGs} (h : PGs X tg t) (k : ∀ v σ H Q, u v σ H Q → t v σ H Q) : PGs X tg u := ⟨fun p s σ H v w Q I r q => h.run p s σ H v w Q I r (k v σ H Q q)⟩
section
variable {X : Cx} {Wx : WX} {pos : Pos}
theorem dg_nm (i : Nat) {x : Str} (hN : X.N.Nodup) (hi : X.N[i]? = some x := by rfl) (hx : Loc X.env.scope x := by first | exact Or.inl rfl | exact Or.inr rfl) (hf : X.fn x = true ∨ X.env.scope.names.lookup x = some .local := by first | exact .inl rfl | exact .inr rfl | assumption) : DG X Wx (.Name x pos) (gtNm i) :=
  pg_imp (pg_name hN hi hx hf) fun v σ H Q ⟨r, s, m, w, q, e, hE, hS, hw, h, hq, _⟩ => hq _ s h m H _ .refl hS (hE.set hw)
theorem dgs_nil : DGs X Wx [] gtNil := pgs_imp pgs_nil fun vs σ H Q ⟨r, s, m, ws, q, e, hE, hS, hw, ⟨h0, h⟩, hq, _⟩ => by
  subst h0
  simp only [RelWs] at hw
  exact ⟨hw, hq _ s h m H _ .refl hS hE⟩
theorem dgs_cons {e : Expr} {es : List Expr} {g : GT} {gs : GTs} (h1 : DG X Wx e g) (h2 : DGs X Wx es gs) (hs : (assignEach (e :: es) X.env).map (·.2) = assign e X.env :: (assignEach es X.env).map (·.2) := by rfl) : DGs X Wx (e :: es) (gtCons g gs) := by
  refine pgs_imp (pgs_cons h1 h2 hs) fun vs σ H Q ⟨r, s, m, ws, q, e, hE, hS, hw, h, hq, hx⟩ => ?_
  cases ws with
  | nil => exact h.elim
  | cons w ws =>
    simp only [RelWs] at hw
    obtain ⟨v, rest, rfl, hv, hr⟩ := hw
    refine ⟨v, rest, rfl, r, s, m, w, _, e, hE, hS, hv, h, fun r1 s1 k m1 H1 σ1 e1 hS1 hE1 => ?_, hx⟩
    exact ⟨r1, s1, m1, ws, q, e, hE1, hS1, hr.ext e1, k, hq.ext e1, hx.ext e1⟩
theorem dg_tp {es : List Expr} {k n : Nat} {gs : GTs} (hc : X.calm = true) (h : DGs X Wx es gs)
    (hn : (assignEach es X.env).length = n := by rfl) (hst : (assignEach es X.env).findIdx? (·.1) = none := by rfl) : DG X Wx (.Tuple es k pos) (gtTp n gs) := by
  refine ⟨fun pins s σ H v u Q I rv ⟨r, st, m, w, q, e, hE, hS, hw, h0, hq, hx⟩ => ?_⟩
  unfold gtTp at h0
  split at h0
  · rename_i ws ew
    obtain ⟨a, vs, rfl, hsq, hr⟩ := items_rel hS hw ew
    have hl : vs.length = n := by rw [← hr.length]; exact h0.1
    have body : tGs (gx X) Wx gs vs σ H Q := ⟨r, st, m, ws, q, e, hE, hS, hr, h0.2, hq, hx⟩
    rcases hsq with hsq | hsq
    · exact (pg_tup hc h hn hst).run pins s σ H _ u Q I rv ⟨a, vs, rfl, hsq, hl, body⟩
    · exact (pg_unl hc h hn hst).run pins s σ H _ u Q I rv ⟨a, vs, rfl, hsq, hl, body⟩
  · exact h0.elim
theorem dg_sub {o i : Expr} {to ti : ET} {ts : TSet} {os : OS} (hset : PSet X ts) (hs : SS (gx X) ts os) (ho : DE X Wx o to) (hi : DE X Wx i ti)
    (hq : ∀ v, assign (.Subscript o i pos) X.env v = (do
      let ov ← holding [v] (eval o X.env)
      let iv ← holding [v, ov] (eval i X.env)
      standAt pos
      holding [v, ov, iv] (setItem ov iv v)
      release [v, ov, iv] []) := by intro _; rfl) : DG X Wx (.Subscript o i pos) (gtSub os to ti) := by
  refine pg_imp (pg_sub ho hi hset hq) fun v σ H Q ⟨r, s1, m1, y, q, e, hE, hS, hy, h, hq, hx⟩ => ?_
  refine ⟨r, s1, m1, _, _, hE, hS, h, fun w s2 k2 m2 H2 vw e2 hS2 hw2 => ?_, hx.at hE⟩
  refine ⟨r, s2, m2, _, _, hE.ext e2, hS2, k2, fun j s3 k3 m3 H3 vj e3 hS3 hj => ?_, (hx.ext e2).at (hE.ext e2)⟩
  refine hs m3 H3 s3 vw vj v w j y _ _ hS3 (hw2.ext e3) hj ((hy.ext e2).ext e3) k3 fun s4 k4 m4 H4 e4 hS4 => ?_
  have e04 := (e2.trans e3).trans e4
  exact hq r s4 k4 m4 H4 σ e04 hS4 (hE.ext e04)
/-- target = value -/
def mAsg (g : GT) (te : ET) : ST := fun r s c => te r s (fun w s1 => g w r s1 c.nx c.ex) (fun k fs s' => c.ex k fs r s')
theorem ds_asg {tg e : Expr} {te : ET} {g : GT} (he : DE X Wx e te) (hg : DG X Wx tg g) (hs : swapsWithSole [tg] e pos.line X.env = pure false := by rfl) (hw : swappedStores [tg] e X.env = pure none := by rfl)
    (h1 : (assignEach [tg] X.env).map (·.2) = [assign tg X.env] := by rfl) : DS X Wx (.Assign [tg] e pos) (mAsg g te) := by
  refine ps_imp (ps_asg he hg hs hw h1) fun D σ H ⟨r, s, m, c, hE, hS, h, hc⟩ => ?_
  refine ⟨r, s, m, _, _, hE, hS, h, fun w s1 k m1 H1 v e1 hS1 hv => ?_, hc.ex.at hE⟩
  exact ⟨r, s1, m1, w, _, _, hE.ext e1, hS1, hv, k, hc.nx.ext e1, hc.ex.ext e1⟩
/-- a, b = x, y; a, b, c = x, y, z: names, the stores from the right -/
def mPar2 (i j : Nat) (tl : LT) : ST := fun r s c => tl r s (fun ws s1 => match ws with
  | [v, w] => c.nx ((r.set i (some v)).set j (some w)) s1
  | _ => False) (fun k fs s' => c.ex k fs r s')
def mPar3 (i j k : Nat) (tl : LT) : ST := fun r s c => tl r s (fun ws s1 => match ws with
  | [u, v, w] => c.nx (((r.set i (some u)).set j (some v)).set k (some w)) s1
  | _ => False) (fun k fs s' => c.ex k fs r s')
theorem ds_par2 (i j : Nat) {x y : Str} {a b : Expr} {ta : LT} {px py pt : Pos} {kt k2 pt2} (hc : X.calm = true) (hN : X.N.Nodup) (ha : DA X Wx [a, b] ta) (hi : X.N[i]? = some x := by rfl) (hj : X.N[j]? = some y := by rfl) (hij : i ≠ j := by decide)
    (hx : X.env.scope.names.lookup x = some .local := by rfl) (hy : X.env.scope.names.lookup y = some .local := by rfl)
    (hw : swappedStores [.Tuple [.Name x px, .Name y py] kt pt] (.Tuple [a, b] k2 pt2) X.env = pure (some [x, y]) := by rfl)
    (hs : swapsWithSole [.Tuple [.Name x px, .Name y py] kt pt] (.Tuple [a, b] k2 pt2) pos.line X.env = pure false := by rfl) :
    DS X Wx (.Assign [.Tuple [.Name x px, .Name y py] kt pt] (.Tuple [a, b] k2 pt2) pos) (mPar2 i j ta) := by
  refine ps_imp (ps_par hc hN hi hj hij hx hy ha hw hs) fun D σ H ⟨r, s, m, c, hE, hS, h, hc⟩ => ?_
  refine ⟨r, s, m, _, _, hE, hS, h, fun ws s1 k m1 H1 vs e1 hS1 hv => ?_, hc.ex.at hE⟩
  dsimp only at k
  split at k
  · obtain ⟨v, v2, rfl, hw1, hw2⟩ := hv.two
    exact ⟨v, v2, rfl, hc.nx _ s1 k m1 H1 _ e1 hS1 (((hE.ext e1).set hw1).set hw2)⟩
  · exact k.elim
theorem RelWs.three {G : Gx} {m : Mu} {H : Hp} {a b c : W} {xs : List V} (h : RelWs G m H [a, b, c] xs) : ∃ u v w, xs = [u, v, w] ∧ RelW G m H a u ∧ RelW G m H b v ∧ RelW G m H c w := by
  simp only [RelWs] at h
  obtain ⟨u, t, rfl, hu, v, t2, rfl, hv, w, t3, rfl, hw, rfl⟩ := h
  exact ⟨u, v, w, rfl, hu, hv, hw⟩
theorem ds_par3 (i j l : Nat) {x y z : Str} {a b c : Expr} {ta : LT} {px py pz pt : Pos} {kt k2 pt2} (hc : X.calm = true) (hN : X.N.Nodup) (ha : DA X Wx [a, b, c] ta) (hi : X.N[i]? = some x := by rfl) (hj : X.N[j]? = some y := by rfl) (hl : X.N[l]? = some z := by rfl) (hij : i ≠ j := by decide) (hil : i ≠ l := by decide) (hjl : j ≠ l := by decide)
    (hx : X.env.scope.names.lookup x = some .local := by rfl) (hy : X.env.scope.names.lookup y = some .local := by rfl) (hz : X.env.scope.names.lookup z = some .local := by rfl)
    (hw : swappedStores [.Tuple [.Name x px, .Name y py, .Name z pz] kt pt] (.Tuple [a, b, c] k2 pt2) X.env = pure (some [x, y, z]) := by rfl)
    (hs : swapsWithSole [.Tuple [.Name x px, .Name y py, .Name z pz] kt pt] (.Tuple [a, b, c] k2 pt2) pos.line X.env = pure false := by rfl) :
    DS X Wx (.Assign [.Tuple [.Name x px, .Name y py, .Name z pz] kt pt] (.Tuple [a, b, c] k2 pt2) pos) (mPar3 i j l ta) := by
  refine ps_imp (ps_par3 hc hN hi hj hl hij hil hjl hx hy hz ha hw hs) fun D σ H ⟨r, s, m, c, hE, hS, h, hc⟩ => ?_
  refine ⟨r, s, m, _, _, hE, hS, h, fun ws s1 k m1 H1 vs e1 hS1 hv => ?_, hc.ex.at hE⟩
  dsimp only at k
  split at k
  · obtain ⟨u, v, v2, rfl, hu, hw1, hw2⟩ := hv.three
    exact ⟨u, v, v2, rfl, hc.nx _ s1 k m1 H1 _ e1 hS1 ((((hE.ext e1).set hu).set hw1).set hw2)⟩
  · exact k.elim
/-- what is never reached -/
def mNever : ST := fun _ _ _ => False
theorem ds_never {st : Stmt} : DS X Wx st mNever := ⟨fun p s σ H D I ⟨r, st, m, c, hE, hS, h, hc⟩ => h.elim⟩
def mNeverE : ET := fun _ _ _ _ => False
theorem de_never {e : Expr} : DE X Wx e mNeverE := ⟨fun p s σ H D I ⟨r, st, m, q, c, hE, hS, h, hc⟩ => h.elim⟩
end
end Fw

set_option maxRecDepth 100000
set_option maxHeartbeats 4000000
namespace Fw
open PySem PySem.Spec PyProof.Rows L2

/-! ## dicts of the cells -/
section
variable {X : Cx} {Wx : WX} {G : Gx} {pos pos' : Pos}
def valW (kvs : List (Key × W)) (k : Key) : Option W := (kvs.find? fun kv => decide (kv.1 = k)).map (·.2)
def putW (kvs : List (Key × W)) (k : Key) (v : W) : List (Key × W) :=
  if (kvs.any fun kv => decide (kv.1 = k)) = true then kvs.map (fun kv => if kv.1 = k then (kv.1, v) else kv) else kvs ++ [(k, v)]
theorem RelK.val {m : Mu} {H : Hp} {k : Key} : ∀ {ws : List (Key × W)} {vs : List (Key × V)} {w : W}, RelK G m H ws vs → valW ws k = some w → ∃ v, valV vs k = some v ∧ RelW G m H w v
  | [], _, _, _, e => by simp [valW] at e
  | (j, u) :: r, _, w, h, e => by
    obtain ⟨v, t, rfl, h1, h2⟩ := h
    by_cases hj : j = k
    · subst hj
      simp [valW] at e
      subst e
      exact ⟨v, by simp [valV], h1⟩
    · have e' : valW r k = some w := by simpa [valW, List.find?_cons, hj] using e
      obtain ⟨v', h3, h4⟩ := RelK.val h2 e'
      exact ⟨v', by simpa [valV, List.find?_cons, hj] using h3, h4⟩
theorem RelK.any {m : Mu} {H : Hp} {k : Key} : ∀ {ws : List (Key × W)} {vs : List (Key × V)}, RelK G m H ws vs → (ws.any fun kv => decide (kv.1 = k)) = (vs.any fun kv => decide (kv.1 = k))
  | [], _, h => by cases h; rfl
  | (j, u) :: r, _, h => by
    obtain ⟨v, t, rfl, h1, h2⟩ := h
    simp [RelK.any h2]
theorem RelK.length {m : Mu} {H : Hp} : ∀ {ws : List (Key × W)} {vs : List (Key × V)}, RelK G m H ws vs → ws.length = vs.length
  | [], _, h => by cases h; rfl
  | (j, u) :: r, _, h => by
    obtain ⟨v, t, rfl, h1, h2⟩ := h
    simp [RelK.length h2]
theorem RelK.mapPut {m : Mu} {H : Hp} {k : Key} {w : W} {v : V} (hw : RelW G m H w v) : ∀ {ws : List (Key × W)} {vs : List (Key × V)}, RelK G m H ws vs → RelK G m H (ws.map (fun kv => if kv.1 = k then (kv.1, w) else kv)) (vs.map (fun kv => if kv.1 = k then (kv.1, v) else kv))
  | [], _, h => by cases h; rfl
  | (j, u) :: r, _, h => by
    obtain ⟨v', t, rfl, h1, h2⟩ := h
    have ih := RelK.mapPut (k := k) hw h2
    by_cases hj : j = k
    · simp only [List.map_cons, hj, if_true]; exact ⟨v, _, rfl, hw, ih⟩
    · simp only [List.map_cons, hj, if_false]; exact ⟨v', _, rfl, h1, ih⟩
theorem RelK.append {m : Mu} {H : Hp} : ∀ {ws us : List (Key × W)} {vs xs : List (Key × V)}, RelK G m H ws vs → RelK G m H us xs → RelK G m H (ws ++ us) (vs ++ xs)
  | [], _, _, _, h, k => by cases h; exact k
  | (j, u) :: r, us, _, xs, h, k => by
    obtain ⟨v', t, rfl, h1, h2⟩ := h
    exact ⟨v', t ++ xs, rfl, h1, RelK.append h2 k⟩
theorem RelK.put {m : Mu} {H : Hp} {k : Key} {w : W} {v : V} (hw : RelW G m H w v) {ws : List (Key × W)} {vs : List (Key × V)} (h : RelK G m H ws vs) : RelK G m H (putW ws k w) (putK vs k v) := by
  unfold putW putK
  rw [h.any]
  split
  · exact h.mapPut hw
  · exact h.append ⟨v, [], rfl, hw, rfl⟩
def keyOf : W → Option Key
  | .int i => some (.inl i)
  | .str x => some (.inr x)
  | _ => none
theorem key_rel {m : Mu} {H : Hp} {w : W} {v : V} (h : RelW G m H w v) {k : Key} (e : keyOf w = some k) : v = kV k := by
  cases w with
  | int i => cases e; simp only [RelW] at h; exact h
  | str x => cases e; simp only [RelW] at h; exact h
  | _ => cases e
def cellD' (w : W) (s : S) : Option (Nat × List (Key × W)) := match w with
  | .ref n => match s[n]? with
    | some (.dct xs) => some (n, xs)
    | _ => none
  | _ => none
theorem cellD_rel {m : Mu} {H : Hp} {s : S} (hS : RelS G m H s) {w : W} {v : V} (h : RelW G m H w v) {n : Nat} {xs : List (Key × W)} (e : cellD' w s = some (n, xs)) :
    ∃ a vs, v = .ref a ∧ m.ad[n]? = some a ∧ s[n]? = some (.dct xs) ∧ H a = some (.dK vs) ∧ RelK G m H xs vs := by
  unfold cellD' at e
  split at e
  · rename_i k
    simp only [RelW] at h
    obtain ⟨a, rfl, ha⟩ := h
    split at e
    · rename_i ys q
      cases e
      obtain ⟨b, hb, vs, h1, h2⟩ := hS.cell n _ q
      rw [ha] at hb; cases hb
      exact ⟨a, vs, rfl, ha, q, h1, h2⟩
    · cases e
  · cases e
def oDGet : O2 := fun a b s q => match cellD' a s, keyOf b with
  | some (_, kvs), some k => match valW kvs k with
    | some w => q w s
    | none => False
  | _, _ => False
theorem de_dget {o i : Expr} {to ti : ET} (hu : X.A.units + 1 < cLine) (ho : DE X Wx o to) (hi : DE X Wx i ti) (hs : NoSl i := by intro _ _; rfl) : DE X Wx (.Subscript o i pos) (mBin oDGet to ti) := by
  refine pe_imp (pe_dget hu ho hi hs) fun σ H Q ⟨r, s, m, q, e, hE, hS, h, hq, hx⟩ => ?_
  refine ⟨r, s, m, _, e, hE, hS, h, fun w s1 k m1 H1 v e1 hS1 hv => ?_, hx⟩
  refine ⟨r, s1, m1, _, e, hE.ext e1, hS1, k, fun w2 s2 k2 m2 H2 v2 e2 hS2 hv2 => ?_, hx.ext e1⟩
  unfold oDGet at k2
  dsimp only at k2
  split at k2
  · rename_i n kvs ky q1 q2
    obtain ⟨a, vs, rfl, ha, h0, h1, h2⟩ := cellD_rel hS2 (hv.ext e2) q1
    have := key_rel hv2 q2
    subst this
    split at k2
    · rename_i w3 q3
      obtain ⟨v3, h4, h5⟩ := h2.val q3
      exact ⟨a, v3, rfl, by rw [← h4]; exact DGet.k h1, hq _ s2 k2 m2 H2 _ (e1.trans e2) hS2 h5⟩
    · exact k2.elim
  · exact k2.elim
def oDPut : OS := fun w i y s q => match cellD' w s, keyOf i with
  | some (n, kvs), some k => kvs.length < sizeLine ∧ q (s.set n (.dct (putW kvs k y)))
  | _, _ => False
theorem ds_dput {o i v : Expr} {to ti tv : ET} (hu : X.A.units + 1 < cLine) (ho : DE X Wx o to) (hi : DE X Wx i ti) (hv : DE X Wx v tv) (hs : swapsWith v (some (.Subscript o i pos')) pos.line X.env = pure false := by rfl) :
    DS X Wx (.Assign [.Subscript o i pos'] v pos) (mPut oDPut to ti tv) := by
  refine ps_imp (ps_dput hu ho hi hv hs) fun D σ H ⟨r, s, m, c, hE, hS, h, hc⟩ => ?_
  have hx := hc.ex.at hE
  refine ⟨r, s, m, _, _, hE, hS, h, fun y s1 k1 m1 H1 vy e1 hS1 hy => ?_, hx⟩
  refine ⟨r, s1, m1, _, _, hE.ext e1, hS1, k1, fun w s2 k2 m2 H2 vw e2 hS2 hw2 => ?_, hx.ext e1⟩
  refine ⟨r, s2, m2, _, _, (hE.ext e1).ext e2, hS2, k2, fun j s3 k3 m3 H3 vj e3 hS3 hj => ?_, (hx.ext e1).ext e2⟩
  unfold oDPut at k3
  dsimp only at k3
  split at k3
  · rename_i n kvs ky q1 q2
    obtain ⟨a, vs, rfl, ha, h0, h1, h2⟩ := cellD_rel hS3 (hw2.ext e3) q1
    have := key_rel hj q2
    subst this
    have am := List.mem_of_getElem? ha
    have e4 : Ext m3 H3 m3 (upd H3 a (.dK (putK vs ky vy))) := Ext.write am
    have hS4 : RelS (gx X) m3 (upd H3 a (.dK (putK vs ky vy))) (s3.set n (.dct (putW kvs ky y))) := by
      refine hS3.write ha h0 (fun z => by cases z) (fun _ z => by cases z) (fun _ z => by cases z) ⟨_, upd_same, ?_⟩
      exact (RelK.put ((hy.ext e2).ext e3) h2).ext e4
    have e04 := ((e1.trans e2).trans e3).trans e4
    exact ⟨a, _, rfl, DPut.k h1 (by rw [← h2.length]; exact k3.1), hc.nx r _ k3.2 m3 _ σ e04 hS4 (hE.ext e04)⟩
  · exact k3.elim
/-- the pairs of a display whose keys are texts -/
def DPr (X : Cx) (Wx : WX) (pos : Pos) (keys : List (Option Expr)) (es : List Expr) (ks : List Str) (tl : LT) : Prop := ∃ trs, PPs X pos keys es trs ∧ keys.length = ks.length ∧ keys.length = es.length ∧ keys.all (·.isSome) = true ∧
  ∀ σ H (Q : List (V × V) → Hp → Prop), tL (gx X) Wx tl σ H (fun vs H' => vs.length = ks.length → Q ((ks.map V.str).zip vs) H') → tPairs trs σ H Q
theorem dpr_nil : DPr X Wx pos [] [] [] mNil := ⟨[], pps_nil, rfl, rfl, rfl, fun σ H Q ⟨r, s, m, q, e, hE, hS, h, hq, hx⟩ => hq [] s h m H [] .refl hS .nil rfl⟩
theorem dpr_cons {k : Str} {j : Nat} {kp : Pos} {e : Expr} {keys : List (Option Expr)} {es : List Expr} {ks : List Str} {te : ET} {tl : LT} (he : DE X Wx e te) (hr : DPr X Wx pos keys es ks tl) : DPr X Wx pos (some (.Constant (.str k) j kp) :: keys) (e :: es) (k :: ks) (mCons te tl) := by
  obtain ⟨trs, h1, h2, h3, h4, h5⟩ := hr
  refine ⟨_, pps_cons pe_str he h1, by simp [h2], by simp [h3], by simpa using h4, fun σ H Q ⟨r, s, m, q, e, hE, hS, h, hq, hx⟩ => ?_⟩
  show tPairs ((tC (V.str k), _) :: trs) σ H Q
  unfold tPairs
  show tE (gx X) Wx te σ H _
  refine ⟨r, s, m, _, e, hE, hS, h, fun w s1 k1 m1 H1 v e1 hS1 hv => ?_, hx⟩
  refine h5 _ _ _ ⟨r, s1, m1, _, e, hE.ext e1, hS1, k1, fun ws s2 k2 m2 H2 vs e2 hS2 hvs hl => ?_, hx.ext e1⟩
  exact hq (w :: ws) s2 k2 m2 H2 (v :: vs) (e1.trans e2) hS2 (.cons (hv.ext e2) hvs) (by simp [hl])
def mergeW (kvs more : List (Key × W)) : List (Key × W) := more.foldl (fun acc kv => putW acc kv.1 kv.2) kvs
theorem RelK.merge {m : Mu} {H : Hp} : ∀ {ks : List Key} {ws : List W} {vs : List V} {a : List (Key × W)} {b : List (Key × V)}, RelK G m H a b → RelWs G m H ws vs → RelK G m H (mergeW a (ks.zip ws)) (mergeK b (ks.zip vs))
  | [], ws, vs, a, b, h, _ => by simpa [mergeW, mergeK] using h
  | k :: ks, [], vs, a, b, h, r => by simp only [RelWs] at r; subst r; simpa [mergeW, mergeK] using h
  | k :: ks, w :: ws, vs, a, b, h, r => by
    simp only [RelWs] at r
    obtain ⟨v, t, rfl, r1, r2⟩ := r
    exact RelK.merge (ks := ks) (h.put r1) r2
/-- {"a": x, "b": y, ..} -/
def mDisp (ks : List Str) (tl : LT) : ET := fun r s q e => tl r (s ++ [.dct []]) (fun ws s1 => s1[s.length]? = some (.dct []) ∧ q (.ref s.length) (s1.set s.length (.dct (mergeW [] ((ks.map Sum.inr).zip ws))))) e
theorem zip_kV : ∀ (ks : List Str) (vs : List V), (ks.map V.str).zip vs = ((ks.map (Sum.inr : Str → Key)).zip vs).map (fun kv => (kV kv.1, kv.2))
  | [], vs => rfl
  | k :: ks, [] => rfl
  | k :: ks, v :: vs => by simp only [List.map_cons, List.zip_cons_cons, zip_kV ks vs]; rfl
theorem de_disp {keys : List (Option Expr)} {es : List Expr} {ks : List Str} {tl : LT} (h : DPr X Wx pos keys es ks tl) (h0 : keys ≠ [] := by exact fun z => by cases z) (h15 : keys.length ≤ 15 := by decide) : DE X Wx (.Dict keys es pos) (mDisp ks tl) := by
  obtain ⟨trs, h1, h2, h3, h4, h5⟩ := h
  refine pe_imp (pe_disp h1 h4 h3 h0 h15) fun σ H Q ⟨r, s, m, q, e, hE, hS, h, hq, hx⟩ p hp => ?_
  have e0 : Ext m H (m.push p) (upd H p (.dK [])) := Ext.alloc hp
  have hS0 : RelS (gx X) (m.push p) (upd H p (.dK [])) (s ++ [.dct []]) := hS.alloc hp ⟨[], upd_same, rfl⟩ fun _ z => by cases z
  refine h5 _ _ _ ⟨r, _, m.push p, _, e, hE.ext e0, hS0, h, fun ws s2 k2 m2 H2 vs e2 hS2 hvs hl => ?_, hx.ext e0⟩
  have hp0 : (m.push p).ad[s.length]? = some p := by rw [← hS.len]; simp [Mu.push]
  have hp2 := e2.at hp0
  obtain ⟨b, hb, us, h6, h7⟩ := hS2.cell _ _ k2.1
  rw [hp2] at hb; cases hb
  have : us = [] := h7
  subst this
  have am := List.mem_of_getElem? hp2
  have hl2 : ws.length = ks.length := hvs.length.trans hl
  refine ⟨h6, (ks.map Sum.inr).zip vs, zip_kV ks vs, ?_, ?_⟩
  · simp [← h2, hl]; omega
  · refine hq _ _ k2.2 m2 _ _ ((e0.trans e2).trans (Ext.write am)) ?_ ?_
    · exact hS2.write hp2 k2.1 (fun z => by cases z) (fun _ z => by cases z) (fun _ z => by cases z) ⟨_, upd_same, RelK.merge (show RelK (gx X) m2 _ [] [] from rfl) (hvs.ext (Ext.write am))⟩
    · simp only [RelW]; exact ⟨p, rfl, hp2⟩
end

/-! ## isinstance with a built-in class -/
section
variable {X : Cx} {Wx : WX} {G : Gx} {pos p p2 : Pos}
def tyNm (w : W) (s : S) : Option String := match w with
  | .non => some "NoneType"
  | .bl _ => some "bool"
  | .int _ => some "int"
  | .str _ => some "str"
  | .tup _ => some "tuple"
  | .lst _ => some "list"
  | .scr _ => none
  | .ref n => match s[n]? with
    | some (.lst _) => some "list"
    | some (.dct _) => some "dict"
    | _ => none
theorem ty_rel {m : Mu} {H : Hp} {s : S} (hS : RelS G m H s) {w : W} {v : V} (h : RelW G m H w v) {t : String} (e : tyNm w s = some t) : TyX G.K H v (.type t) := by
  cases w with
  | non => simp only [RelW] at h; subst h; cases e; exact .base .non
  | bl b => simp only [RelW] at h; subst h; cases e; exact .base (.bl b)
  | int b => simp only [RelW] at h; subst h; cases e; exact .base (.int b)
  | str b => simp only [RelW] at h; subst h; cases e; exact .base (.str b)
  | tup xs =>
    simp only [RelW] at h
    obtain ⟨a, vs, rfl, h1, _⟩ := h
    cases e
    rcases h1 with ⟨_, _, h1 | ⟨o, h1⟩⟩ | ⟨o, its, n, h1, h2, _⟩
    · exact .base (.tup h1)
    · exact .fTuple h1
    · exact .kTuple h1 h2
  | lst xs =>
    simp only [RelW] at h
    obtain ⟨a, vs, rfl, h1, _⟩ := h
    cases e
    exact .base (.lst h1.2.2)
  | scr xs => cases e
  | ref n =>
    simp only [RelW] at h
    obtain ⟨a, rfl, ha⟩ := h
    simp only [tyNm] at e
    split at e
    · rename_i ys q
      cases e
      obtain ⟨b, hb, vs, h1, h2⟩ := hS.cell n _ q
      rw [ha] at hb; cases hb
      exact .base (.lst h1)
    · rename_i ys q
      cases e
      obtain ⟨b, hb, vs, h1, h2⟩ := hS.cell n _ q
      rw [ha] at hb; cases hb
      exact .base (.dK h1)
    · cases e
def isTy (t T : String) : Bool := t == T || (t == "bool" && T == "int")
def basicT : List String := ["NoneType", "bool", "int", "str", "tuple", "list", "dict"]
theorem kit_basic (K : PySem.W.Frag) : ∀ t ∈ basicT, ∀ T ∈ ["bool", "int", "str", "tuple", "list", "dict"], PySem.W.kitOne K (.type t) (.type T) = some (isTy t T) := by
  intro t ht T hT
  simp only [basicT, List.mem_cons, List.not_mem_nil, or_false] at ht hT
  rcases ht with rfl | rfl | rfl | rfl | rfl | rfl | rfl <;> rcases hT with rfl | rfl | rfl | rfl | rfl | rfl <;> rfl
theorem ty_basic {w : W} {s : S} {t : String} (e : tyNm w s = some t) : t ∈ basicT := by
  unfold tyNm at e
  split at e
  all_goals first | (cases e; decide) | (cases e; done) | skip
  split at e <;> first | (cases e; decide) | cases e
/-- isinstance(x, T) -/
def mIsi (T : String) (te : ET) : ET := fun r s q e => te r s (fun w s1 => match tyNm w s1 with
  | some t => q (.bl (isTy t T)) s1
  | none => False) e
theorem de_isi {a : Expr} {te : ET} {Tn : Str} (T : String) (hm : X.mg "isinstance" = none) (hT : X.mg Tn = none) (ha : DE X Wx a te) (hv : bootBuiltins Tn = some (.type T) := by rfl) (hb : T ∈ ["bool", "int", "str", "tuple", "list", "dict"] := by decide) (hg : Gl X "isinstance" := by rfl) (hg2 : Gl X Tn := by rfl) (hn : Tn ≠ "__name__" := by decide) (hd : (Tn == ("__debug__" : Str)) = false := by decide)
    (he : starEach [a, .Name Tn p2] X.env = (false, eval a X.env) :: starEach [.Name Tn p2] X.env := by rfl) (he2 : starEach [.Name Tn p2] X.env = (false, eval (.Name Tn p2) X.env) :: starEach [] X.env := by rfl) (hpl : (backTo pos (starEach [.Name Tn p2] X.env)).any (·.1) = false := by rfl) :
    DE X Wx (.Call (.Name "isinstance" p) [a, .Name Tn p2] [] pos) (mIsi T te) := by
  refine pe_imp (pe_callB call_isi hg hm PyProof.Rows.boot_isinstance (pa_cons ha (pa_cons (pe_bltn (v := .ty T) hg2 hT hv rfl hn hd) pa_nil he2) he) (by decide) (by decide) he hpl) fun σ H Q ⟨r, s, m, q, e, hE, hS, h, hq, hx⟩ => ?_
  refine ⟨r, s, m, _, e, hE, hS, h, fun w s1 k m1 H1 v e1 hS1 hv => ?_, hx⟩
  dsimp only at k
  split at k
  · rename_i t et
    exact ⟨v, .ty T, .type t, .type T, isTy t T, rfl, .ty T, ty_rel hS1 hv et, kit_basic _ _ (ty_basic et) _ hb, hq _ s1 k m1 H1 _ e1 hS1 (by simp only [RelW])⟩
  · exact k.elim
end
end Fw

set_option maxRecDepth 100000
set_option maxHeartbeats 4000000
namespace Fw
open PySem PySem.Spec PyProof.Rows L2

/-! ## repr of lists and tuples -/
section
variable {X : Cx} {Wx : WX} {G : Gx} {pos p p2 : Pos}
structure OkShow (d : PyData) : Prop where
  sh : d.showable = true
  nd : d.hasDict = false
  ds : isDisplay d = true
  dp : d.depth ≤ 70
  ln : d.shown.length ≤ sizeLine
def oRepr : ON := fun ws s q => match ws with
  | [w] => match datS s w with
    | some d => OkShow d ∧ q (.str d.shown) s
    | none => False
  | _ => False
def rRepr (X : Cx) : List V → Hp → VK → Prop := fun xs H Q => ∃ m st w v d, xs = [v] ∧ RelS (gx X) m H st ∧ RelW (gx X) m H w v ∧ datS st w = some d ∧ OkShow d ∧ Q (.str d.shown) H
theorem call_repr (hg : X.A.guards = some []) (hu : X.A.units + 80 < cLine) : CallR X (.builtin "repr") (rRepr X) := by
  rintro pins s σ H xs us Q I r ⟨m, st, w, v, d, rfl, hS, hw, hd, ok, q⟩
  obtain ⟨u, rfl, ru⟩ := vals1 r
  obtain ⟨as, rd⟩ := reads_S I hS hw ru hd
  obtain ⟨a, rfl⟩ := isRef_of_reads rd ok.ds
  refine repr_of_reads' rd ok.sh (PyData.noDict_hsm ok.nd) hg (by have := ok.dp; omega) (fun _ _ e => e) (fun h' u tk hk => ?_) ok.ln
  exact ⟨.str d.shown, H, I.kept (t' := tk) hk, ⟨u, rfl⟩, q⟩
theorem s_repr : SN (gx X) (rRepr X) oRepr := by
  intro m H s xs ws q Q hS hw h hq
  unfold oRepr at h
  split at h
  · rename_i w
    obtain ⟨v, rfl, hv⟩ := hw.one
    split at h
    · rename_i d hd
      exact ⟨m, s, w, v, d, rfl, hS, hv, hd, h.1, hq _ s h.2 m H _ .refl hS (by simp only [RelW])⟩
    · exact h.elim
  · exact h.elim
end

/-! ## keywords -/
abbrev DK (X : Cx) (Wx : WX) (kws : List Keyword) (t : LT) : Prop := PK X kws (tL (gx X) Wx t)
section
variable {X : Cx} {Wx : WX} {k : Nat} {f : Addr} {fd : FuncData} {ps ks : List Str} {g : FT} {x : Str} {p pos kpos : Pos} {e : Expr} {es : List Expr} {kws : List Keyword} {t tk : LT} {nm : Option Str} {te : ET}
theorem pk_imp {t u : TA} (h : PK X kws t) (k : ∀ σ H Q, u σ H Q → t σ H Q) : PK X kws u := ⟨fun pos pins s σ H Q I r => h.run pos pins s σ H Q I (k σ H Q r)⟩
theorem dk_nil : DK X Wx [] mNil := pk_imp pk_nil fun σ H Q ⟨r, s, m, q, e, hE, hS, h, hq, _⟩ => hq [] s h m H [] .refl hS .nil
theorem dk_cons (ha : DE X Wx e te) (hr : DK X Wx kws tk) : DK X Wx (⟨nm, e, kpos⟩ :: kws) (mCons te tk) := by
  refine pk_imp (pk_cons ha hr) fun σ H Q ⟨r, s, m, q, e, hE, hS, h, hq, hx⟩ => ?_
  refine ⟨r, s, m, _, e, hE, hS, h, fun w s1 k m1 H1 v e1 hS1 hv => ?_, hx⟩
  refine ⟨r, s1, m1, _, e, hE.ext e1, hS1, k, fun ws s2 k2 m2 H2 vs e2 hS2 hvs => ?_, hx.ext e1⟩
  exact hq _ s2 k2 m2 H2 _ (e1.trans e2) hS2 (.cons (hv.ext e2) hvs)
/-- the written places: js says where the j-th parameter comes from -/
def pickL {α : Type} (js : List Nat) (xs : List α) : Option (List α) := js.mapM fun j => xs[j]?
theorem pick_rel {G : Gx} {m : Mu} {H : Hp} {ws : List W} {vs : List V} (h : RelWs G m H ws vs) : ∀ {js : List Nat} {us : List W}, pickL js ws = some us → ∃ xs, pickL js vs = some xs ∧ RelWs G m H us xs
  | [], us, e => by simp [pickL] at e; subst e; exact ⟨[], by simp [pickL], .nil⟩
  | j :: js, us, e => by
    simp only [pickL, List.mapM_cons, Option.bind_eq_bind, Option.bind_eq_some_iff] at e
    obtain ⟨w, e1, r, e2, e3⟩ := e
    simp at e3; subst e3
    obtain ⟨v, hv, hr⟩ := h.get e1
    obtain ⟨xs, h1, h2⟩ := pick_rel h (js := js) e2
    exact ⟨v :: xs, by simp only [pickL, List.mapM_cons, Option.bind_eq_bind] at *; rw [hv, h1]; rfl, .cons hr h2⟩
theorem pick_vals : ∀ {js : List Nat} {vs xs : List V} {us : List Value}, Vals vs us → pickL js vs = some xs → ∃ zs, pickL js us = some zs ∧ Vals xs zs
  | [], vs, xs, us, r, e => by simp [pickL] at e; subst e; exact ⟨[], by simp [pickL], .nil⟩
  | j :: js, vs, xs, us, r, e => by
    simp only [pickL, List.mapM_cons, Option.bind_eq_bind, Option.bind_eq_some_iff] at e
    obtain ⟨w, e1, t, e2, e3⟩ := e
    simp at e3; subst e3
    obtain ⟨u, hu, hr⟩ := Vals.get r e1
    obtain ⟨zs, h1, h2⟩ := pick_vals (js := js) r e2
    exact ⟨u :: zs, by simp only [pickL, List.mapM_cons, Option.bind_eq_bind] at *; rw [hu, h1]; rfl, .cons hr h2⟩
/-- f(k = .., l = ..): nothing but keywords -/
def mCallK (g : FT) (js : List Nat) (nk n : Nat) (t : LT) : ET := fun r s q e => t r s (fun ws s1 => match pickL js ws with
  | some us => ws.length = nk ∧ us.length = n ∧ g us s1 q e
  | none => False) e
def KwBinds (fd : FuncData) (ps ks : List Str) (js : List Nat) : Prop := ∀ (s : Shared) (ws zs : List Value), pickL js ws = some zs → ws.length = ks.length → zs.length = ps.length → BindsTo s fd ⟨[], ks.zip ws⟩ (ps.zip zs)
theorem Vals.app {as bs : List V} {us zs : List Value} (h : Vals as us) (k : Vals bs zs) : Vals (as ++ bs) (us ++ zs) := by
  induction h with
  | nil => exact k
  | cons a b ih => exact .cons a ih
theorem de_callKw (js : List Nat) (F : FnG X.prog X.w X.K X.mg X.base k f fd ps g) (hr : Room k X.A) (hgd : X.A.guards = some []) (hm : X.mg x = some (.ref f)) (hk : PySem.W.keepIn X.K (.ref f) = true) (hb : KwBinds fd ps ks js) (tk : Takes X Wx) (hkw : DK X Wx kws t) (hg : Gl X x := by rfl)
    (hall : (backToKw pos (keywordEach kws X.env)).all (·.1.isSome) = true := by rfl) (hks : (backToKw pos (keywordEach kws X.env)).filterMap (·.1) = ks := by rfl)
    (hdb : (x == ("__debug__" : Str)) = false := by decide) (hpl : ((backTo pos (starEach [] X.env)).any (·.1) || (backToKw pos (keywordEach kws X.env)).any (·.1.isNone)) = false := by rfl) :
    DE X Wx (.Call (.Name x p) [] kws pos) (mCallK g js ks.length ps.length t) := by
  constructor
  intro pins s σ H Q I ⟨r, st, m, q, ex, hE, hS, h, hq, hx⟩
  refine wpAny_Call_Name_kw (ld_glob I hg hm ?_ hdb)
  refine PySem.W.callWith_KW0 (h₀ := X.base) I.ok.mod.kin hk hall ?_ hpl
  have hrun := hkw.run pos pins s σ H (fun vs H1 => ∃ xs, pickL js vs = some xs ∧ vs.length = ks.length ∧ xs.length = ps.length ∧ ∃ ws s1 m1, RelWs (gx X) m1 H1 ws xs ∧ RelS (gx X) m1 H1 s1 ∧ Ext m H m1 H1 ∧ g ws s1 q ex) I
    ⟨r, st, m, _, ex, hE, hS, h, fun ws s1 k1 m1 H1 vs e1 hS1 hv => by
      dsimp only at k1
      split at k1
      · rename_i us hus
        obtain ⟨xs, h1, h2⟩ := pick_rel hv hus
        exact ⟨xs, h1, by rw [← hv.length]; exact k1.1, by rw [← h2.length]; exact k1.2.1, us, s1, m1, h2, hS1, e1, k1.2.2⟩
      · exact k1.elim, hx⟩
  refine thn hrun fun us s1 ⟨vs, H1, I1, rv, xs, hxs, hl1, hl2, ws, st1, m1, hws, hst1, e1, hg1⟩ => ⟨I1.kIn, ?_⟩
  rw [hks]
  obtain ⟨zs, hz, rz⟩ := pick_vals rv hxs
  refine run_fnG (E := fun c d H' => Wx c d σ H') (us2 := zs) F hr hgd tk (fun _ _ _ z => z) I1 ?_ rz ⟨hl2, ws, st1, m1, q, ex, hws, hst1, hg1, hq.ext e1, hx.ext e1⟩
  exact hb s1 us zs hz (by rw [← rv.length]; exact hl1) (by rw [← rz.length]; exact hl2)
end
end Fw

set_option maxRecDepth 100000
set_option maxHeartbeats 4000000
namespace Fw
open PySem PySem.Spec PyProof.Rows L2

/-! ## comprehensions whose list will change -/
theorem Keeps.expose {m : Mu} {H : Hp} {D : Addr} {l : List Addr} (hD : D ∈ m.hid) (hl : ∀ a ∈ l, a ∈ m.hid) : Keeps m H ⟨m.ad ++ [D], l⟩ H :=
  ⟨fun n a h => by
    have := (List.getElem?_eq_some_iff.mp h).1
    show (m.ad ++ [D])[n]? = some a
    rw [List.getElem?_append_left this]; exact h, fun a o h1 h2 h3 => ⟨fun z => by
    rcases List.mem_append.mp z with z | z
    · exact h1 z
    · simp at z; subst z; exact h2 hD, fun z => h2 (hl a z), h3⟩⟩
theorem RelS.expose {G : Gx} {m : Mu} {H : Hp} {s : S} (h : RelS G m H s) {D : Addr} {l : List Addr} {xs : List W} {vs : List V} (hD : D ∈ m.hid) (hv : H D = some (.lst vs)) (hr : RelWs G m H xs vs) (hl : ∀ a ∈ l, a ∈ m.hid) (hDl : D ∉ l) :
    RelS G ⟨m.ad ++ [D], l⟩ H (s ++ [.lst xs]) := by
  have kp := Keeps.expose (H := H) hD hl
  have hlast : ∀ (n : Nat) (b : Nat), s[n]? = some (.orc b) → n + 1 < s.length := fun n b q => (List.getElem?_eq_some_iff.mp (h.orc n b q)).1
  have cut : ∀ {i : Nat} {d : Cell}, (s ++ [.lst xs])[i]? = some d → s[i]? = some d ∨ (i = s.length ∧ d = .lst xs) := fun {i d} q => by
    by_cases hi : i < s.length
    · rw [List.getElem?_append_left hi] at q; exact .inl q
    · rw [List.getElem?_append_right (by omega)] at q
      have : i - s.length = 0 := by
        have := (List.getElem?_eq_some_iff.mp q).1
        simp at this; omega
      rw [this] at q
      simp at q
      exact .inr ⟨by omega, q.symm⟩
  refine ⟨by simp [h.len], ?_, fun a ha => ?_, fun a ha => ⟨fun z => ?_, (h.hdom a (hl a ha)).2⟩, fun n d e => ?_, fun n b e => ?_⟩
  · show (m.ad ++ [D]).Nodup
    rw [List.nodup_append]
    exact ⟨h.nd, by simp, fun a ha b hb => by simp at hb; subst hb; exact fun z => (h.hdom b hD).1 (z ▸ ha)⟩
  · rcases List.mem_append.mp ha with ha | ha
    · exact h.dom a ha
    · simp at ha; subst ha; exact (h.hdom a hD).2
  · rcases List.mem_append.mp z with z | z
    · exact (h.hdom a (hl a ha)).1 z
    · simp at z; subst z; exact hDl ha
  · rcases cut e with q | ⟨rfl, rfl⟩
    · obtain ⟨a, ha, k⟩ := h.cell n d q
      exact ⟨a, kp.at' _ _ ha, k.keeps kp rfl fun _ _ _ _ => rfl⟩
    · exact ⟨D, by rw [← h.len]; simp, vs, hv, hr.keeps kp⟩
  · rcases cut e with q | ⟨_, z⟩
    · rw [List.getElem?_append_left (hlast n b q)]; exact h.orc n b q
    · cases z
def mCompN (it : IT) (g : Tgt) (tt : BT) (te : ET) (vs : List Nat) : ET := fun r s q e => it r s (fun xs l s1 => compL g tt te (wipeL r vs) l xs [] s1 (fun ws s2 => q (.ref s2.length) (s2 ++ [.lst ws]))) e
section
variable {X : Cx} {Wx : WX} {elt tg iter : Expr} {ifs : List Expr} {scope : Scope} {own : List (Str × Nat)} {pos : Pos} {it : IT} {g : Tgt} {tt : BT} {te : ET}
theorem tLc_ofN {G : Gx} {K : PySem.W.Frag} (hK : K = G.K) (hsl : ∀ i ∈ slots g, i ∈ own.map (·.2)) : ∀ σ H Q, tE G Wx (mCompN it g tt te (own.map (·.2))) σ H Q → tLc (tI G Wx it) (gT K g) (tB G W0 tt) (tE G W0 te) (own.map (·.2)) σ H Q := by
  subst hK
  intro σ H Q ⟨r, s, m, q, e, hE, hS, h, hq, hx⟩
  refine ⟨r, s, m, _, e, hE, hS, h, fun xs l s1 k m1 H1 J e1 hS1 hJ => ?_, hx⟩
  intro D hD
  let Inv' : Nat → Hp → Prop := fun i H2 => i ≤ xs.length ∧ ∃ acc vs s2 m2, RelS G m2 H2 s2 ∧ Ext m1 H1 m2 H2 ∧ D ∈ m2.hid ∧ H2 D = some (.lst vs) ∧ RelWs G m2 H2 acc vs ∧
    compL g tt te (wipeL r (own.map (·.2))) l (xs.drop i) acc s2 (fun ws s2 => q (.ref s2.length) (s2 ++ [.lst ws]))
  refine ⟨fun i k H2 => k = xs.length - i ∧ Inv' i H2, ⟨xs.length, by simp, Nat.zero_le _, [], [], s1, ⟨m1.ad, D :: m1.hid⟩, hS1.hide hD, Ext.hide hD, List.mem_cons_self, upd_same, .nil, by simpa using k⟩, ?_⟩
  rintro i n H2 ⟨rfl, hi, acc, vs, s2, m2, hS2, e2, hDm, hDv, hacc, hf⟩
  have hok : okL l s2 := by
    cases hdd : xs.drop i with
    | nil => rw [hdd] at hf; unfold compL at hf; exact hf.1
    | cons y ys => rw [hdd] at hf; unfold compL at hf; exact hf.1
  obtain ⟨hstop, hgo⟩ := hJ m2 H2 s2 e2 hS2 hok i
  have e02 := e1.trans e2
  by_cases hlt : i < xs.length
  · obtain ⟨go, yld⟩ := hgo hlt
    refine .inr ⟨go, Inv' (i + 1), fun H' p' => ⟨xs.length - (i + 1), by omega, rfl, p'⟩, fun x H3 y => ?_⟩
    obtain ⟨e3, hS3, w, hw, hr⟩ := yld x H3 y
    have hd : xs.drop i = w :: xs.drop (i + 1) := by
      rw [List.drop_eq_getElem_cons hlt]
      have := List.getElem?_eq_getElem hlt
      rw [hw] at this
      cases this
      rfl
    rw [hd] at hf
    unfold compL at hf
    replace hf := hf.2
    split at hf
    · rename_i r3 ha
      refine gT_of hS3 ((hE.ext (e02.trans e3)).wipe _) hr ha fun σ3 hE3 o3 => ⟨(off_wipe o3 hsl).trans (wipe_twice _ _), ?_⟩
      have hno : ∀ {m' : Mu} {H' : Hp} {σ' : L2.St}, Kx G m' H' (fun c d H' => W0 c d σ' H') (fun _ _ _ => False) := fun {m' H' σ'} _ _ _ z => z.elim
      have e13 := e2.trans e3
      have hDn : D ∉ m2.ad := (hS2.hdom D hDm).1
      refine ⟨r3, s2, m2, _, _, hE3, hS3, hf, fun b s4 k4 m4 H4 e4 hS4 => ?_, hno⟩
      have hDv3 := e3.keep _ _ hDn hDv
      have hDv4 : H4 D = some (.lst vs) := e4.keep _ _ hDn hDv3
      have hD4 : D ∈ m4.hid := e4.inhid hDm
      cases b with
      | true =>
        refine iteT ?_
        refine ⟨r3, s4, m4, _, _, hE3.ext e4, hS4, by simpa using k4, fun w5 s5 k5 m5 H5 v5 e5 hS5 hv5 => ?_, hno⟩
        have hDv5 : H5 D = some (.lst vs) := e5.keep _ _ (hS4.hdom D hD4).1 hDv4
        have hD5 : D ∈ m5.hid := e5.inhid hD4
        have hacc5 := hacc.ext ((e3.trans e4).trans e5)
        exact ⟨vs, hDv5, by rw [← hacc5.length]; exact k5.1, hlt, acc ++ [w5], vs ++ [v5], s5, m5, hS5.grow hD5, ((e13.trans e4).trans e5).grow hD, hD5, upd_same,
          (hacc5.append (.cons hv5 .nil)).keeps (Keeps.grow hD5), k5.2⟩
      | false =>
        refine iteF ?_
        exact ⟨hlt, acc, vs, s4, m4, hS4, e13.trans e4, hD4, hDv4, hacc.ext (e3.trans e4), by simpa using k4⟩
    · exact hf.elim
  · have : i = xs.length := by omega
    subst this
    rw [List.drop_length] at hf
    unfold compL at hf
    obtain ⟨nh, ehid, hnh⟩ := e2.hx
    have hsub : ∀ a ∈ m1.hid, a ∈ m2.hid := fun a ha => e2.inhid ha
    have hD1 : D ∉ m1.hid := fun z => (hS1.hdom D z).2 hD
    have hDn := (hS2.hdom D hDm).1
    obtain ⟨n, en, hn⟩ := e2.ex
    have ex : Ext m1 H1 ⟨m2.ad ++ [D], m1.hid⟩ H2 := ⟨⟨n ++ [D], by simp [en], fun p hp => by
      rcases List.mem_append.mp hp with hp | hp
      · exact hn p hp
      · simp at hp; subst hp; exact hD⟩, ⟨[], by simp⟩, e2.keep, e2.dom⟩
    refine .inl ⟨hstop rfl, hq _ _ hf.2 ⟨m2.ad ++ [D], m1.hid⟩ H2 _ (e1.trans ex) (hS2.expose hDm hDv hacc hsub hD1) ?_⟩
    simp only [RelW]
    exact ⟨D, rfl, by rw [← hS2.len]; simp⟩
theorem de_compN (hc : X.calm = true) (hN : X.N.Nodup) (hi : DI X Wx tg iter it) (ok : BlkOk X.N X.env.scope scope own)
    (hg : ∀ (s : Shared) (H : Hp) (C : Addr) (cl : List (Str × Addr)) (fp : List Addr), DT (X.blk s H scope (compEnvC scope cl C X.env) fp) tg g) (ht : ∀ (s : Shared) (H : Hp) (C : Addr) (cl : List (Str × Addr)) (fp : List Addr), dtests (X.blk s H scope (compEnvC scope cl C X.env) fp) ifs tt)
    (he : ∀ (s : Shared) (H : Hp) (C : Addr) (cl : List (Str × Addr)) (fp : List Addr), DE (X.blk s H scope (compEnvC scope cl C X.env) fp) W0 elt te) (hsl : ∀ i ∈ slots g, i ∈ own.map (·.2) := by decide) (hs : ∀ x, foldedSetIterable iter X.env x = pure x := by intro _; rfl) :
    DE X Wx (.ListComp elt [⟨tg, iter, ifs, 0⟩] scope pos) (mCompN it g tt te (own.map (·.2))) :=
  pe_imp (pe_lc hc hN hi ok hg ht he hs) (tLc_ofN rfl hsl)
/-- y = [..] -/
theorem ds_setLcN (i : Nat) {y : Str} {py spos : Pos} (hc : X.calm = true) (hN : X.N.Nodup) (hy : X.N[i]? = some y) (hyl : X.env.scope.names.lookup y = some .local)
    (hsw : swapsWith (.ListComp elt [⟨tg, iter, ifs, 0⟩] scope pos) (some (.Name y py)) spos.line X.env = pure true) (hi : DI X Wx tg iter it) (ok : BlkOk X.N X.env.scope scope own)
    (hg : ∀ (s : Shared) (H : Hp) (C : Addr) (cl : List (Str × Addr)) (fp : List Addr), DT (X.blk s H scope (compEnvC scope cl C X.env) fp) tg g) (ht : ∀ (s : Shared) (H : Hp) (C : Addr) (cl : List (Str × Addr)) (fp : List Addr), dtests (X.blk s H scope (compEnvC scope cl C X.env) fp) ifs tt)
    (he : ∀ (s : Shared) (H : Hp) (C : Addr) (cl : List (Str × Addr)) (fp : List Addr), DE (X.blk s H scope (compEnvC scope cl C X.env) fp) W0 elt te) (hsl : ∀ i ∈ slots g, i ∈ own.map (·.2) := by decide) (hs : ∀ x, foldedSetIterable iter X.env x = pure x := by intro _; rfl) :
    DS X Wx (.Assign [.Name y py] (.ListComp elt [⟨tg, iter, ifs, 0⟩] scope pos) spos) (mSet i (mCompN it g tt te (own.map (·.2)))) := by
  refine ps_imp (ps_setLc (wi := tI (gx X) Wx it) (g := gT X.K g) (tt := tB (gx X) W0 tt) (te := tE (gx X) W0 te) hc hN hy hyl hsw hi ok hg ht he hs) fun D σ H ⟨r, s, m, c, hE, hS, h, hcc⟩ => ?_
  refine tLc_ofN (Wx := Wx) rfl hsl σ H _ ⟨r, s, m, _, _, hE, hS, h, fun w s1 k m1 H1 v e1 hS1 hv => ?_, hcc.ex.at hE⟩
  exact hcc.nx _ s1 k m1 H1 _ e1 hS1 ((hE.ext e1).set hv)
end

/-! ## defs of the text, with what they are worth -/
structure DefT (K : PySem.W.Frag) (mg : Str → Option Value) (x : Str) (st : Stmt) (ps : List Str) (kws : List (List Str × List Nat)) : Prop where
  ex : ∃ f fd, Fun K x x st f fd ∧ mg x = some (.ref f) ∧ Binds K fd ps [] ∧ ∀ p ∈ kws, KwBinds fd ps p.1 p.2
structure Has (P : Program) (w : World) (K : PySem.W.Frag) (mg : Str → Option Value) (base : Heap) (k : Nat) (x : Str) (ps : List Str) (kws : List (List Str × List Nat)) (g : FT) : Prop where
  ex : ∃ f fd, FnG P w K mg base k f fd ps g ∧ mg x = some (.ref f) ∧ PySem.W.keepIn K (.ref f) = true ∧ Binds K fd ps [] ∧ ∀ p ∈ kws, KwBinds fd ps p.1 p.2
section
variable {P : Program} {w : World} {K : PySem.W.Frag} {mg : Str → Option Value} {base : Heap} {x : Str} {st : Stmt} {ps N : List Str} {kws : List (List Str × List Nat)} {k j : Nat} {g g' : FT} {t : ST}
theorem Has.mono (h : Has P w K mg base k x ps kws g) (hk : k ≤ j) : Has P w K mg base j x ps kws g := by
  obtain ⟨f, fd, F, r⟩ := h.ex
  exact ⟨f, fd, F.mono hk, r⟩
theorem Has.weak (h : Has P w K mg base k x ps kws g) (hw : ∀ ws s q e, g' ws s q e → g ws s q e) : Has P w K mg base k x ps kws g' := by
  obtain ⟨f, fd, F, r⟩ := h.ex
  exact ⟨f, fd, F.weak hw, r⟩
theorem Has.imp (h : Has P w K mg base k x ps kws g) (hw : ∀ vs H Q E, spG ⟨K, mg⟩ ps.length g' vs H Q E → spG ⟨K, mg⟩ ps.length g vs H Q E) : Has P w K mg base k x ps kws g' := by
  obtain ⟨f, fd, F, r⟩ := h.ex
  exact ⟨f, fd, F.imp hw, r⟩
theorem DefT.has (D : DefT K mg x st ps kws) (Sc : FnScope N ps (defScope st))
    (hb : ∀ (f : Addr) (cdv : Value) (A : Around) (outer : List Env) (s : Shared) (H : Hp) (E : XK), Room k (A.deeper (envOfC x (defScope st) s.heap.objs.size f cdv)) → A.guards = some [] →
      DSs (cxOf (L2.CX P w) P w K mg base N x (defScope st) f cdv A outer s H E) (fun c d _ H' => E c d H') (defBody st) t) : Has P w K mg base (k + 1) x ps kws (fnM N.length t) := by
  obtain ⟨f, fd, F, hm, hbd, hk⟩ := D.ex
  exact ⟨f, fd, Fw.Fun.okG F Sc (hb f), hm, F.kp, hbd, hk⟩
end
section
variable {X : Cx} {Wx : WX} {k n n2 : Nat} {ps ks : List Str} {kws : List (List Str × List Nat)} {g : FT} {x : Str} {p pos : Pos} {e : Expr} {es : List Expr} {kw : List Keyword} {t : LT}
theorem de_go (h : Has X.prog X.w X.K X.mg X.base k x ps kws g) (hr : Room k X.A) (hgd : X.A.guards = some []) (tk : Takes X Wx) (ha : DA X Wx (e :: es) t) (hg : Gl X x := by rfl)
    (hdb : (x == ("__debug__" : Str)) = false := by decide) (he : starEach (e :: es) X.env = (false, eval e X.env) :: starEach es X.env := by rfl) (hpl : (backTo pos (starEach es X.env)).any (·.1) = false := by rfl) (hn : ps.length = n := by rfl) :
    DE X Wx (.Call (.Name x p) (e :: es) [] pos) (mCall g n t) := by
  subst hn
  obtain ⟨f, fd, F, hm, hk, hb, _⟩ := h.ex
  exact de_call F hr hgd hm hk hb tk ha hg hdb he hpl
theorem de_goK (js : List Nat) (h : Has X.prog X.w X.K X.mg X.base k x ps kws g) (hr : Room k X.A) (hgd : X.A.guards = some []) (tk : Takes X Wx) (hkw : DK X Wx kw t) (hin : (ks, js) ∈ kws := by decide) (hg : Gl X x := by rfl)
    (hall : (backToKw pos (keywordEach kw X.env)).all (·.1.isSome) = true := by rfl) (hks : (backToKw pos (keywordEach kw X.env)).filterMap (·.1) = ks := by rfl)
    (hdb : (x == ("__debug__" : Str)) = false := by decide) (hpl : ((backTo pos (starEach [] X.env)).any (·.1) || (backToKw pos (keywordEach kw X.env)).any (·.1.isNone)) = false := by rfl) (hn : ps.length = n := by rfl) (hn2 : ks.length = n2 := by rfl) :
    DE X Wx (.Call (.Name x p) [] kw pos) (mCallK g js n2 n t) := by
  subst hn
  subst hn2
  obtain ⟨f, fd, F, hm, hk, _, hb⟩ := h.ex
  exact de_callKw js F hr hgd hm hk (hb _ hin) tk hkw hg hall hks hdb hpl
end
theorem ru {A : Around} {k : Nat} (h : Room k A) (n : Nat) (hn : n ≤ 200 := by decide) : A.units + n < cLine := by have := h.un; omega
/-- nothing is let out -/
theorem tk0 {X : Cx} : Takes X W0 := fun u s' ⟨a, B, sI, pins, σ, H, cls, d, e, I, nb, up, sky, na, os, ag, w⟩ => w.elim
structure Blt (mg : Str → Option Value) : Prop where
  len : mg "len" = none
  range : mg "range" = none
  list : mg "list" = none
  tuple : mg "tuple" = none
  min : mg "min" = none
  max : mg "max" = none
  sum : mg "sum" = none
  abs : mg "abs" = none
  all : mg "all" = none
  any : mg "any" = none
  sorted : mg "sorted" = none
  repr : mg "repr" = none
  isinstance : mg "isinstance" = none
  enumerate : mg "enumerate" = none
  zip : mg "zip" = none
  set : mg "set" = none
  str : mg "str" = none
  int : mg "int" = none
  bool : mg "bool" = none
  dict : mg "dict" = none
  reversed : mg "reversed" = none
theorem bt_len : bootBuiltins "len" = some (.builtin "len") := by decide +kernel
theorem bt_min : bootBuiltins "min" = some (.builtin "min") := by decide +kernel
theorem bt_max : bootBuiltins "max" = some (.builtin "max") := by decide +kernel
theorem bt_sum : bootBuiltins "sum" = some (.builtin "sum") := by decide +kernel
theorem bt_sorted : bootBuiltins "sorted" = some (.builtin "sorted") := by decide +kernel
theorem bt_repr : bootBuiltins "repr" = some (.builtin "repr") := by decide +kernel
theorem bt_abs : bootBuiltins "abs" = some (.builtin "abs") := by decide +kernel
theorem bt_all : bootBuiltins "all" = some (.builtin "all") := by decide +kernel
theorem bt_any : bootBuiltins "any" = some (.builtin "any") := by decide +kernel
theorem bt_list : bootBuiltins "list" = some (.type "list") := by decide +kernel
theorem bt_tuple : bootBuiltins "tuple" = some (.type "tuple") := by decide +kernel
theorem bt_set : bootBuiltins "set" = some (.type "set") := by decide +kernel
theorem bt_dict : bootBuiltins "dict" = some (.type "dict") := by decide +kernel
def oNeg : O1 := fun a s q => match a with
  | .int i => q (.int (-i)) s
  | _ => False
theorem s_neg {G : Gx} : S1 G (rU fun i => .int (-i)) oNeg := by
  intro m H s x a q Q hS ha h hq
  unfold oNeg at h
  split at h
  · rename_i i
    simp only [RelW] at ha
    exact ⟨i, ha, hq _ s h m H _ .refl hS (by simp only [RelW])⟩
  · exact h.elim
theorem gdX {X : Cx} {A : Around} {env : Env} (h : A.guards = some []) (he : X.A = A.deeper env := by rfl) : X.A.guards = some [] := by
  rw [he]; exact (deeper_guards A env).trans h
end Fw

set_option maxRecDepth 100000
set_option maxHeartbeats 4000000
namespace Fw
open PySem PySem.Spec PyProof.Rows L2

/-! ## what is left behind by a def is forgotten; lists that it hands out stand still -/
mutual
inductive Frz (k : Nat) (s : S) : W → W → Prop where
  | non : Frz k s .non .non
  | bl {b} : Frz k s (.bl b) (.bl b)
  | int {i} : Frz k s (.int i) (.int i)
  | str {x} : Frz k s (.str x) (.str x)
  | scr {x} : Frz k s (.scr x) (.scr x)
  | tup {xs ys} (h : Frzs k s xs ys) : Frz k s (.tup xs) (.tup ys)
  | lst {xs ys} (h : Frzs k s xs ys) : Frz k s (.lst xs) (.lst ys)
  | old {n} (h : n < k) : Frz k s (.ref n) (.ref n)
  | new {n xs ys} (h : k ≤ n) (e : s[n]? = some (.lst xs)) (q : Frzs k s xs ys) : Frz k s (.ref n) (.lst ys)
inductive Frzs (k : Nat) (s : S) : List W → List W → Prop where
  | nil : Frzs k s [] []
  | cons {x y xs ys} (h : Frz k s x y) (t : Frzs k s xs ys) : Frzs k s (x :: xs) (y :: ys)
end
mutual
theorem Frz.rel {G : Gx} {m : Mu} {H : Hp} {k : Nat} {s : S} (hS : RelS G m H s) : ∀ {w u : W} {v : V}, Frz k s w u → RelW G m H w v → RelW G ⟨m.ad.take k, m.hid⟩ H u v
  | _, _, _, .non, h => by simp only [RelW] at *; exact h
  | _, _, _, .bl, h => by simp only [RelW] at *; exact h
  | _, _, _, .int, h => by simp only [RelW] at *; exact h
  | _, _, _, .str, h => by simp only [RelW] at *; exact h
  | _, _, _, .scr, h => by
    simp only [RelW] at *
    obtain ⟨a, e, h1⟩ := h
    rcases h1 with ⟨h1, h2, h3⟩ | h1
    · exact ⟨a, e, .inl ⟨fun z => h1 (List.mem_of_mem_take z), h2, h3⟩⟩
    · exact ⟨a, e, .inr h1⟩
  | _, _, _, .tup f, h => by
    simp only [RelW] at *
    obtain ⟨a, vs, e, h1, h2⟩ := h
    refine ⟨a, vs, e, ?_, Frzs.rel hS f h2⟩
    rcases h1 with ⟨h1, h3, h4⟩ | h1
    · exact .inl ⟨fun z => h1 (List.mem_of_mem_take z), h3, h4⟩
    · exact .inr h1
  | _, _, _, .lst f, h => by
    simp only [RelW] at *
    obtain ⟨a, vs, e, h1, h2⟩ := h
    exact ⟨a, vs, e, ⟨fun z => h1.1 (List.mem_of_mem_take z), h1.2.1, h1.2.2⟩, Frzs.rel hS f h2⟩
  | _, _, _, .old hn, h => by
    simp only [RelW] at *
    obtain ⟨a, e, h1⟩ := h
    refine ⟨a, e, ?_⟩
    rw [List.getElem?_take]
    simp [hn, h1]
  | _, _, _, .new (n := n) hn e f, h => by
    simp only [RelW] at *
    obtain ⟨a, rfl, h1⟩ := h
    obtain ⟨b, hb, vs, h2, h3⟩ := hS.cell _ _ e
    rw [h1] at hb; cases hb
    refine ⟨a, vs, rfl, ⟨fun z => ?_, fun z => (hS.hdom a z).1 (List.mem_of_getElem? h1), h2⟩, Frzs.rel hS f h3⟩
    obtain ⟨j, hj⟩ := List.getElem?_of_mem z
    rw [List.getElem?_take] at hj
    split at hj
    · have := nodup_at hS.nd hj h1
      omega
    · cases hj
theorem Frzs.rel {G : Gx} {m : Mu} {H : Hp} {k : Nat} {s : S} (hS : RelS G m H s) : ∀ {ws us : List W} {vs : List V}, Frzs k s ws us → RelWs G m H ws vs → RelWs G ⟨m.ad.take k, m.hid⟩ H us vs
  | _, _, _, .nil, h => by simp only [RelWs] at *; exact h
  | _, _, _, .cons f t, h => by
    simp only [RelWs] at *
    obtain ⟨v, r, e, h1, h2⟩ := h
    exact ⟨v, r, e, Frz.rel hS f h1, Frzs.rel hS t h2⟩
end
mutual
/-- values that stand in a heap of k cells lean on those alone -/
theorem low_of {G : Gx} {m : Mu} {H : Hp} (s : S) {k : Nat} (hk : m.ad.length = k) : ∀ {w : W} {v : V}, RelW G m H w v → Frz k s w w
  | .non, _, _ => .non
  | .bl _, _, _ => .bl
  | .int _, _, _ => .int
  | .str _, _, _ => .str
  | .scr _, _, _ => .scr
  | .tup xs, v, h => by
    simp only [RelW] at h
    obtain ⟨a, vs, _, _, h2⟩ := h
    exact .tup (lows_of s hk h2)
  | .lst xs, v, h => by
    simp only [RelW] at h
    obtain ⟨a, vs, _, _, h2⟩ := h
    exact .lst (lows_of s hk h2)
  | .ref n, v, h => by
    simp only [RelW] at h
    obtain ⟨a, _, h1⟩ := h
    exact .old (by rw [← hk]; exact (List.getElem?_eq_some_iff.mp h1).1)
theorem lows_of {G : Gx} {m : Mu} {H : Hp} (s : S) {k : Nat} (hk : m.ad.length = k) : ∀ {ws : List W} {vs : List V}, RelWs G m H ws vs → Frzs k s ws ws
  | [], _, _ => .nil
  | w :: ws, _, h => by
    simp only [RelWs] at h
    obtain ⟨v, r, _, h1, h2⟩ := h
    exact .cons (low_of s hk h1) (lows_of s hk h2)
end
/-- the caller's cells: as they were, but for the numbers that were drawn -/
def SameC (s s0 : S) : Prop := s0.length = s.length ∧ ∀ (i : Nat) c, s0[i]? = some c → s[i]? = some c ∨ ∃ b b', c = .orc b ∧ s[i]? = some (.orc b')
theorem SameC.refl (s : S) : SameC s s := ⟨rfl, fun _ _ h => .inl h⟩
theorem SameC.set {s : S} {n b b' : Nat} (h : s[n]? = some (.orc b')) : SameC s (s.set n (.orc b)) := by
  refine ⟨by simp, fun i c e => ?_⟩
  by_cases hi : n = i
  · subst hi
    have hl := (List.getElem?_eq_some_iff.mp h).1
    rw [List.getElem?_set_self hl] at e
    cases e
    exact .inr ⟨b, b', rfl, h⟩
  · rw [List.getElem?_set_ne hi] at e
    exact .inl e
inductive FrzF (k : Nat) (s : S) : Fl → Fl → Prop where
  | nil : FrzF k s [] []
  | cons {f x y xs ys} (h : Frz k s x y) (t : FrzF k s xs ys) : FrzF k s ((f, x) :: xs) ((f, y) :: ys)
theorem FrzF.rel {G : Gx} {m : Mu} {H : Hp} {k : Nat} {s : S} (hS : RelS G m H s) : ∀ {ws us : Fl} {vs : List (Str × V)}, FrzF k s ws us → RelF G m H ws vs → RelF G ⟨m.ad.take k, m.hid⟩ H us vs
  | _, _, _, .nil, h => h
  | _, _, _, .cons f t, h => by
    obtain ⟨v, r, e, h1, h2⟩ := h
    exact ⟨v, r, e, Frz.rel hS f h1, FrzF.rel hS t h2⟩
/-- fewer draws are promised -/
def Wk (s1 s0 : S) : Prop := s0.length = s1.length ∧ ∀ (i : Nat) c, s0[i]? = some c → s1[i]? = some c ∨ ∃ b b', b ≤ b' ∧ c = .orc b ∧ s1[i]? = some (.orc b')
theorem Wk.refl (s : S) : Wk s s := ⟨rfl, fun _ _ h => .inl h⟩
theorem orcGood.mono {cs gs : List Int} {n : Int} {b b' : Nat} (h : orcGood cs gs n b') (hb : b ≤ b') : orcGood cs gs n b := by
  obtain ⟨h1, h2, h3, h4, h5, h6⟩ := h
  exact ⟨h1, h2, h3, h4, h5, by omega⟩
theorem RelS.wk {G : Gx} {m : Mu} {H : Hp} {s1 s0 : S} (h : RelS G m H s1) (k : Wk s1 s0) : RelS G m H s0 := by
  refine ⟨by rw [k.1]; exact h.len, h.nd, h.dom, h.hdom, fun n c e => ?_, fun n b e => ?_⟩
  · rcases k.2 n c e with e1 | ⟨b, b', hb, rfl, e1⟩
    · exact h.cell n c e1
    · obtain ⟨a, ha, cs, gs, n', ag, ac, vs, g, r⟩ := h.cell n _ e1
      exact ⟨a, ha, cs, gs, n', ag, ac, vs, g.mono hb, r⟩
  · have e1 : ∃ b', s1[n]? = some (.orc b') := by
      rcases k.2 n _ e with e1 | ⟨_, b', _, _, e1⟩
      · exact ⟨b, e1⟩
      · exact ⟨b', e1⟩
    obtain ⟨b', e1⟩ := e1
    have q := h.orc n b' e1
    have hl : n + 1 < s0.length := by rw [k.1]; exact (List.getElem?_eq_some_iff.mp q).1
    have e2 := List.getElem?_eq_getElem hl
    rcases k.2 (n + 1) _ e2 with e3 | ⟨_, _, _, _, e3⟩
    · rw [q] at e3; rw [e2]; exact e3.symm
    · rw [q] at e3; cases e3
theorem Wk.app {s1 s0 : S} (k : Wk s1 s0) (junk : S) : Wk (s1 ++ junk) (s0 ++ junk) := by
  refine ⟨by simp [k.1], fun i c e => ?_⟩
  by_cases hi : i < s0.length
  · rw [List.getElem?_append_left hi] at e
    rw [List.getElem?_append_left (by rw [← k.1]; exact hi)]
    exact k.2 i c e
  · rw [List.getElem?_append_right (by omega)] at e
    rw [List.getElem?_append_right (by rw [← k.1]; omega), ← k.1]
    exact .inl e
theorem Wk.set {s : S} {n b b' : Nat} (hb : b ≤ b') : Wk (s.set n (.orc b')) (s.set n (.orc b)) := by
  refine ⟨by simp, fun i c e => ?_⟩
  by_cases hi : n = i
  · subst hi
    have hl : n < s.length := by
      have := (List.getElem?_eq_some_iff.mp e).1
      simpa using this
    rw [List.getElem?_set_self hl] at e ⊢
    cases e
    exact .inr ⟨b, b', hb, rfl, rfl⟩
  · rw [List.getElem?_set_ne hi] at e ⊢
    exact .inl e
/-- what is left behind is forgotten -/
def gcQ (s : S) (q : QW) : QW := fun w s' => ∃ s1 s0 junk w0, s' = s1 ++ junk ∧ Wk s1 s0 ∧ SameC s s0 ∧ Frz s.length s' w w0 ∧ q w0 s0
def gcX (s : S) (e : QX) : QX := fun c fs s' => ∃ s1 s0 junk fs0, s' = s1 ++ junk ∧ Wk s1 s0 ∧ SameC s s0 ∧ FrzF s.length s' fs fs0 ∧ e c fs0 s0
theorem gcQ.same {s junk : S} {q : QW} {w w0 : W} (f : Frz s.length (s ++ junk) w w0) (h : q w0 s) : gcQ s q w (s ++ junk) := ⟨s, s, junk, w0, rfl, .refl s, .refl s, f, h⟩
theorem gcQ.here {s : S} {q : QW} {w : W} (f : Frz s.length s w w) (h : q w s) : gcQ s q w s := ⟨s, s, [], w, by simp, .refl s, .refl s, f, h⟩
theorem gcQ.draw {s junk : S} {q : QW} {w w0 : W} {n b b0 b1 : Nat} (h0 : s[n]? = some (.orc b0)) (hb : b ≤ b1) (f : Frz s.length (s.set n (.orc b1) ++ junk) w w0) (h : q w0 (s.set n (.orc b))) : gcQ s q w (s.set n (.orc b1) ++ junk) :=
  ⟨s.set n (.orc b1), s.set n (.orc b), junk, w0, rfl, .set hb, .set h0, f, h⟩
/-- g, with what it leaves behind forgotten -/
def gc (g : FT) : FT := fun ws s q e => g ws s (gcQ s q) (gcX s e)
theorem RelK.frz {G : Gx} {m : Mu} {H : Hp} {k : Nat} {s s1 : S} {m1 : Mu} {H1 : Hp} (hS : RelS G m1 H1 s1) (hk : m.ad.length = k) : ∀ {ws : List (Key × W)} {vs us : List (Key × V)}, RelK G m H ws vs → RelK G m1 H1 ws us → RelK G ⟨m1.ad.take k, m1.hid⟩ H1 ws us
  | [], _, _, _, h => h
  | (j, w) :: r, _, _, h0, h => by
    obtain ⟨v, t, e, h1, h2⟩ := h
    obtain ⟨v', t', e', h1', h2'⟩ := h0
    exact ⟨v, t, e, Frz.rel hS (low_of s1 hk h1') h1, RelK.frz (s := s) hS hk h2' h2⟩
theorem RelF.frz {G : Gx} {m : Mu} {H : Hp} {k : Nat} {s1 : S} {m1 : Mu} {H1 : Hp} (hS : RelS G m1 H1 s1) (hk : m.ad.length = k) : ∀ {ws : Fl} {vs us : List (Str × V)}, RelF G m H ws vs → RelF G m1 H1 ws us → RelF G ⟨m1.ad.take k, m1.hid⟩ H1 ws us
  | [], _, _, _, h => h
  | (j, w) :: r, _, _, h0, h => by
    obtain ⟨v, t, e, h1, h2⟩ := h
    obtain ⟨v', t', e', h1', h2'⟩ := h0
    exact ⟨v, t, e, Frz.rel hS (low_of s1 hk h1') h1, RelF.frz hS hk h2' h2⟩
theorem gc_rel {G : Gx} {m m1 : Mu} {H H1 : Hp} {s s0 junk : S} (hS : RelS G m H s) (ex : Ext m H m1 H1) (hS1 : RelS G m1 H1 (s0 ++ junk)) (sm : SameC s s0) :
    Ext m H ⟨m1.ad.take s.length, m1.hid⟩ H1 ∧ RelS G ⟨m1.ad.take s.length, m1.hid⟩ H1 s0 := by
  obtain ⟨n, en, hn⟩ := ex.ex
  have ead : m1.ad.take s.length = m.ad := by rw [en, ← hS.len]; simp
  refine ⟨⟨⟨[], by simp [ead]⟩, ex.hx, ex.keep, ex.dom⟩, ?_⟩
  have sub : ∀ a ∈ m.ad, a ∈ m1.ad := fun a ha => by rw [en]; exact List.mem_append_left _ ha
  have nd1 : m.ad.Nodup := hS.nd
  refine ⟨?_, ?_, fun a ha => ?_, fun a ha => ⟨fun z => ?_, (hS1.hdom a ha).2⟩, fun i c e => ?_, fun i b e => ?_⟩
  · show (m1.ad.take s.length).length = s0.length
    rw [ead, sm.1, hS.len]
  · show (m1.ad.take s.length).Nodup
    rw [ead]; exact nd1
  · have ha' : a ∈ m1.ad.take s.length := ha
    rw [ead] at ha'
    exact hS1.dom a (sub a ha')
  · have z' : a ∈ m1.ad.take s.length := z
    rw [ead] at z'
    exact (hS1.hdom a ha).1 (sub a z')
  · have hl : i < s0.length := (List.getElem?_eq_some_iff.mp e).1
    have e1 : (s0 ++ junk)[i]? = some c := by rw [List.getElem?_append_left hl]; exact e
    obtain ⟨a, ha, k⟩ := hS1.cell i c e1
    have hi : i < s.length := by rw [← sm.1]; exact hl
    refine ⟨a, by show (m1.ad.take s.length)[i]? = some a; rw [List.getElem?_take]; simp [hi, ha], ?_⟩
    rcases sm.2 i c e with h0 | ⟨b, b', rfl, h0⟩
    · obtain ⟨a', ha', k0⟩ := hS.cell i c h0
      cases c with
      | lst xs =>
        obtain ⟨vs, h1, h2⟩ := k
        obtain ⟨vs', h1', h2'⟩ := k0
        exact ⟨vs, h1, Frzs.rel hS1 (lows_of _ hS.len h2') h2⟩
      | dct kvs =>
        obtain ⟨vs, h1, h2⟩ := k
        obtain ⟨vs', h1', h2'⟩ := k0
        exact ⟨vs, h1, RelK.frz (s := s) hS1 hS.len h2' h2⟩
      | ins c fs =>
        obtain ⟨C, dx, vs, h3, h1, h2⟩ := k
        obtain ⟨C', dx', vs', h3', h1', h2'⟩ := k0
        exact ⟨C, dx, vs, h3, h1, RelF.frz hS1 hS.len h2' h2⟩
      | orc b =>
        obtain ⟨cs, gs, n', ag, ac, vs, g, h1, h2, h3, h4, h5⟩ := k
        have hi1 : i + 1 < s.length := (List.getElem?_eq_some_iff.mp (hS.orc i b h0)).1
        exact ⟨cs, gs, n', ag, ac, vs, g, by show (m1.ad.take s.length)[i + 1]? = some ag; rw [List.getElem?_take]; simp [hi1, h1], h2, ⟨fun z => h3.1 (List.mem_of_mem_take z), h3.2.1, h3.2.2⟩, h4, h5⟩
      | aux => trivial
    · obtain ⟨cs, gs, n', ag, ac, vs, g, h1, h2, h3, h4, h5⟩ := k
      have hi1 : i + 1 < s.length := (List.getElem?_eq_some_iff.mp (hS.orc i b' h0)).1
      exact ⟨cs, gs, n', ag, ac, vs, g, by show (m1.ad.take s.length)[i + 1]? = some ag; rw [List.getElem?_take]; simp [hi1, h1], h2, ⟨fun z => h3.1 (List.mem_of_mem_take z), h3.2.1, h3.2.2⟩, h4, h5⟩
  · have hl : i < s0.length := (List.getElem?_eq_some_iff.mp e).1
    have e1 : (s0 ++ junk)[i]? = some (.orc b) := by rw [List.getElem?_append_left hl]; exact e
    have q := hS1.orc i b e1
    have hi1 : i + 1 < s.length := by
      rcases sm.2 i _ e with h0 | ⟨_, b', _, h0⟩
      · exact (List.getElem?_eq_some_iff.mp (hS.orc i b h0)).1
      · exact (List.getElem?_eq_some_iff.mp (hS.orc i b' h0)).1
    rw [List.getElem?_append_left (by rw [sm.1]; exact hi1)] at q
    exact q
theorem Has.gc {P : Program} {w : World} {K : PySem.W.Frag} {mg : Str → Option Value} {base : Heap} {k : Nat} {x : Str} {ps : List Str} {kws : List (List Str × List Nat)} {g : FT} (h : Has P w K mg base k x ps kws g) : Has P w K mg base k x ps kws (gc g) := by
  refine h.imp fun vs H Q E ⟨hl, ws, s, m, q, e, hw, hS, hg, hq, hx⟩ => ?_
  refine ⟨hl, ws, s, m, _, _, hw, hS, hg, ?_, ?_⟩
  · rintro w s' ⟨s1, s0, junk, w0, rfl, wk, sm, fr, q0⟩ m1 H1 v e1 hS1 hv
    obtain ⟨r1, r2⟩ := gc_rel hS e1 (hS1.wk (wk.app junk)) sm
    exact hq w0 s0 q0 _ H1 v r1 r2 (fr.rel hS1 hv)
  · rintro c fs s' ⟨s1, s0, junk, fs0, rfl, wk, sm, fr, q0⟩ m1 H1 C d fvs e1 hS1 hC hd hf
    obtain ⟨r1, r2⟩ := gc_rel hS e1 (hS1.wk (wk.app junk)) sm
    exact hx c fs0 s0 q0 _ H1 C d fvs r1 r2 hC hd (fr.rel hS1 hf)

/-! ## the numbers that are drawn -/
/-- the cells of a drawing state, looked at -/
def orcS (s : S) (n : Nat) (cs gs : List Int) (k : Int) : S := (s.set n (.dct [(.inr "cells", .lst (cs.map W.int)), (.inr "great", .ref (n + 1)), (.inr "spot", .int k)])).set (n + 1) (.lst (gs.map W.int))
theorem orcS_len {s : S} {n : Nat} {cs gs : List Int} {k : Int} : (orcS s n cs gs k).length = s.length := by simp [orcS]
theorem orcS_n {s : S} {n : Nat} {cs gs : List Int} {k : Int} (h : n < s.length) : (orcS s n cs gs k)[n]? = some (.dct [(.inr "cells", .lst (cs.map W.int)), (.inr "great", .ref (n + 1)), (.inr "spot", .int k)]) := by
  unfold orcS
  rw [List.getElem?_set_ne (by omega), List.getElem?_set_self h]
theorem orcS_g {s : S} {n : Nat} {cs gs : List Int} {k : Int} (h : n + 1 < s.length) : (orcS s n cs gs k)[n + 1]? = some (.lst (gs.map W.int)) := by
  unfold orcS
  rw [List.getElem?_set_self (by simpa using h)]
theorem orcS_o {s : S} {n i : Nat} {cs gs : List Int} {k : Int} (h : i ≠ n) (h2 : i ≠ n + 1) : (orcS s n cs gs k)[i]? = s[i]? := by
  unfold orcS
  rw [List.getElem?_set_ne (fun z => h2 z.symm), List.getElem?_set_ne (fun z => h z.symm)]
section
variable {G : Gx} {m : Mu} {H : Hp} {s : S} {n b : Nat}
theorem RelS.look (h : RelS G m H s) (e : s[n]? = some (.orc b)) : ∃ cs gs k, orcGood cs gs k b ∧ RelS G m H (orcS s n cs gs k) := by
  obtain ⟨a, ha, cs, gs, k, ag, ac, vs, g, h1, h2, h3, h4, h5⟩ := h.cell n _ e
  have hx := h.orc n b e
  have l1 := (List.getElem?_eq_some_iff.mp e).1
  have l2 := (List.getElem?_eq_some_iff.mp hx).1
  refine ⟨cs, gs, k, g, by rw [orcS_len]; exact h.len, h.nd, h.dom, h.hdom, fun i c q => ?_, fun i b' q => ?_⟩
  · by_cases i1 : i = n
    · subst i1
      rw [orcS_n l1] at q
      cases q
      refine ⟨a, ha, _, h5, .ref ac, _, rfl, ?_, .ref ag, _, rfl, ?_, .int k, _, rfl, ?_, rfl⟩
      · simp only [RelW]; exact ⟨ac, vs, rfl, h3, by rw [h4]; exact .ints⟩
      · simp only [RelW]; exact ⟨ag, rfl, h1⟩
      · simp only [RelW]
    · by_cases i2 : i = n + 1
      · subst i2
        rw [orcS_g l2] at q
        cases q
        exact ⟨ag, h1, _, h2, .ints⟩
      · rw [orcS_o i1 i2] at q
        exact h.cell i c q
  · by_cases i1 : i = n
    · subst i1; rw [orcS_n l1] at q; cases q
    · by_cases i2 : i = n + 1
      · subst i2; rw [orcS_g l2] at q; cases q
      · rw [orcS_o i1 i2] at q
        have r := h.orc i b' q
        have j1 : i + 1 ≠ n := fun z => by rw [z, e] at r; cases r
        rw [orcS_o j1 (by omega)]
        exact r
theorem RelS.veil {cs gs : List Int} {k : Int} {b0 : Nat} (h : RelS G m H (orcS s n cs gs k)) (e : s[n]? = some (.orc b0)) (hx : s[n + 1]? = some .aux) (ho : ∀ i b, s[i]? = some (.orc b) → s[i + 1]? = some .aux) (g : orcGood cs gs k b) : RelS G m H (s.set n (.orc b)) := by
  have l1 := (List.getElem?_eq_some_iff.mp e).1
  have l2 := (List.getElem?_eq_some_iff.mp hx).1
  obtain ⟨a, ha, vs, hv, hk⟩ := h.cell n _ (orcS_n l1)
  obtain ⟨v1, t1, rfl, r1, v2, t2, rfl, r2, v3, t3, rfl, r3, r4⟩ := hk
  cases r4
  simp only [RelW] at r1 r2 r3
  obtain ⟨ac, us, rfl, fz, ri⟩ := r1
  obtain ⟨ag, rfl, hag⟩ := r2
  subst r3
  obtain ⟨ag', hag', gv, hgv, rg⟩ := h.cell (n + 1) _ (orcS_g l2)
  rw [hag] at hag'; cases hag'
  have e1 := RelWs.of_ints rg
  subst e1
  refine ⟨?_, h.nd, h.dom, h.hdom, fun i c q => ?_, fun i b' q => ?_⟩
  · rw [h.len, orcS_len]; simp
  · by_cases i1 : n = i
    · subst i1
      rw [List.getElem?_set_self l1] at q
      cases q
      exact ⟨a, ha, cs, gs, k, ag, ac, us, g, hag, hgv, fz, RelWs.of_ints ri, hv⟩
    · rw [List.getElem?_set_ne i1] at q
      by_cases i2 : i = n + 1
      · subst i2
        rw [hx] at q
        cases q
        exact ⟨ag, hag, trivial⟩
      · exact h.cell i c (by rw [orcS_o (fun z => i1 z.symm) i2]; exact q)
  · by_cases i1 : n = i
    · subst i1
      rw [List.getElem?_set_ne (by omega)]; exact hx
    · rw [List.getElem?_set_ne i1] at q
      have r := ho i b' q
      have j1 : n ≠ i + 1 := fun z => by rw [← z, e] at r; cases r
      rw [List.getElem?_set_ne j1]; exact r
end
end Fw

set_option maxRecDepth 100000
set_option maxHeartbeats 4000000
namespace Fw
open PySem PySem.Spec PyProof.Rows L2

/-! ## the meanings, unfolded where they stand with all their arguments -/
theorem u_fnM {n : Nat} {t : ST} {ws : List W} {s : S} {q : QW} {e : QX} : fnM n t ws s q e = (t (ws.map some ++ List.replicate (n - ws.length) none) s ⟨fun _ s' => q .non s', q, fun _ _ => False, fun _ _ => False, fun c fs _ s' => e c fs s'⟩) := propext ⟨fun h => h, fun h => h⟩
theorem u_mSeq {t u : ST} {r : Lv} {s : S} {c : Cn} : mSeq t u r s c = (t r s { c with nx := fun r' s' => u r' s' c }) := propext ⟨fun h => h, fun h => h⟩
theorem u_mIfS {b : BT} {t u : ST} {r : Lv} {s : S} {c : Cn} : mIfS b t u r s c = (b r s (fun k s' => if k = true then t r s' c else u r s' c) (fun k fs s' => c.ex k fs r s')) := propext ⟨fun h => h, fun h => h⟩
theorem u_mRet {te : ET} {r : Lv} {s : S} {c : Cn} : mRet te r s c = (te r s c.rt (fun k fs s' => c.ex k fs r s')) := propext ⟨fun h => h, fun h => h⟩
theorem u_mRetN  {v0 : Lv} {s : S} {c : Cn} : mRetN  v0 s c = (c.rt .non s) := propext ⟨fun h => h, fun h => h⟩
theorem u_mSet {i : Nat} {te : ET} {r : Lv} {s : S} {c : Cn} : mSet i te r s c = (te r s (fun w s' => c.nx (r.set i (some w)) s') (fun k fs s' => c.ex k fs r s')) := propext ⟨fun h => h, fun h => h⟩
theorem u_mExpr {te : ET} {r : Lv} {s : S} {c : Cn} : mExpr te r s c = (te r s (fun _ s' => c.nx r s') (fun k fs s' => c.ex k fs r s')) := propext ⟨fun h => h, fun h => h⟩
theorem u_mVar {i : Nat} {r : Lv} {s : S} {q : QW} {v3 : QX} : mVar i r s q v3 = (match r[i]? with
  | some (some w) => q w s
  | _ => False) := propext ⟨fun h => h, fun h => h⟩
theorem u_mK {w : W} {v0 : Lv} {s : S} {q : QW} {v3 : QX} : mK w v0 s q v3 = (q w s) := propext ⟨fun h => h, fun h => h⟩
theorem u_mBin {op : O2} {ta tb : ET} {r : Lv} {s : S} {q : QW} {e : QX} : mBin op ta tb r s q e = (ta r s (fun x s1 => tb r s1 (fun y s2 => op x y s2 q) e) e) := propext ⟨fun h => h, fun h => h⟩
theorem u_mUn {op : O1} {ta : ET} {r : Lv} {s : S} {q : QW} {e : QX} : mUn op ta r s q e = (ta r s (fun x s1 => op x s1 q) e) := propext ⟨fun h => h, fun h => h⟩
theorem u_mChain {op op' : O2} {ta tb tc : ET} {r : Lv} {s : S} {q : QW} {e : QX} : mChain op op' ta tb tc r s q e = (ta r s (fun x s1 => tb r s1 (fun y s2 => op x y s2 (fun z s3 => match z with
  | .bl k => if k = true then tc r s3 (fun u s4 => op' y u s4 q) e else q (.bl false) s3
  | _ => False)) e) e) := propext ⟨fun h => h, fun h => h⟩
theorem u_mT {t : ET} {r : Lv} {s : S} {q : (Bool → S → Prop)} {e : QX} : mT t r s q e = (t r s (fun w s1 => match w with
  | .bl b => q b s1
  | _ => False) e) := propext ⟨fun h => h, fun h => h⟩
theorem u_mAnd {ta tb : ET} {r : Lv} {s : S} {q : QW} {e : QX} : mAnd ta tb r s q e = (ta r s (fun w s1 => match w with
  | .bl b => if b = true then tb r s1 q e else q (.bl false) s1
  | _ => False) e) := propext ⟨fun h => h, fun h => h⟩
theorem u_mOr {ta tb : ET} {r : Lv} {s : S} {q : QW} {e : QX} : mOr ta tb r s q e = (ta r s (fun w s1 => match w with
  | .bl b => if b = true then q (.bl true) s1 else tb r s1 q e
  | _ => False) e) := propext ⟨fun h => h, fun h => h⟩
theorem u_mNot {ta : ET} {r : Lv} {s : S} {q : QW} {e : QX} : mNot ta r s q e = (ta r s (fun w s1 => match w with
  | .bl b => q (.bl (!b)) s1
  | _ => False) e) := propext ⟨fun h => h, fun h => h⟩
theorem u_bAnd {ta tb : BT} {r : Lv} {s : S} {q : (Bool → S → Prop)} {e : QX} : bAnd ta tb r s q e = (ta r s (fun b s1 => if b = true then tb r s1 q e else q false s1) e) := propext ⟨fun h => h, fun h => h⟩
theorem u_bOr {ta tb : BT} {r : Lv} {s : S} {q : (Bool → S → Prop)} {e : QX} : bOr ta tb r s q e = (ta r s (fun b s1 => if b = true then q true s1 else tb r s1 q e) e) := propext ⟨fun h => h, fun h => h⟩
theorem u_bNot {ta : BT} {r : Lv} {s : S} {q : (Bool → S → Prop)} {e : QX} : bNot ta r s q e = (ta r s (fun b s1 => q (!b) s1) e) := propext ⟨fun h => h, fun h => h⟩
theorem u_mIf {c : BT} {ta tb : ET} {r : Lv} {s : S} {q : QW} {e : QX} : mIf c ta tb r s q e = (c r s (fun k s1 => if k = true then ta r s1 q e else tb r s1 q e) e) := propext ⟨fun h => h, fun h => h⟩
theorem u_mFn {op : ON} {t : LT} {r : Lv} {s : S} {q : QW} {e : QX} : mFn op t r s q e = (t r s (fun ws s1 => op ws s1 q) e) := propext ⟨fun h => h, fun h => h⟩
theorem u_mTup {t : LT} {r : Lv} {s : S} {q : QW} {e : QX} : mTup t r s q e = (t r s (fun ws s1 => ws.length ≤ sizeLine ∧ q (.tup ws) s1) e) := propext ⟨fun h => h, fun h => h⟩
theorem u_mLst {t : LT} {r : Lv} {s : S} {q : QW} {e : QX} : mLst t r s q e = (t r s (fun ws s1 => ws.length ≤ sizeLine ∧ q (.lst ws) s1) e) := propext ⟨fun h => h, fun h => h⟩
theorem u_mNew {t : LT} {r : Lv} {s : S} {q : QW} {e : QX} : mNew t r s q e = (t r s (fun ws s1 => ws.length ≤ sizeLine ∧ q (.ref s1.length) (s1 ++ [.lst ws])) e) := propext ⟨fun h => h, fun h => h⟩
theorem u_mCons {ta : ET} {tr : LT} {r : Lv} {s : S} {q : (List W → S → Prop)} {e : QX} : mCons ta tr r s q e = (ta r s (fun w s1 => tr r s1 (fun ws s2 => q (w :: ws) s2) e) e) := propext ⟨fun h => h, fun h => h⟩
theorem u_mNil  {v0 : Lv} {s : S} {q : (List W → S → Prop)} {v3 : QX} : mNil  v0 s q v3 = (q [] s) := propext ⟨fun h => h, fun h => h⟩
theorem u_mCall {g : FT} {n : Nat} {t : LT} {r : Lv} {s : S} {q : QW} {e : QX} : mCall g n t r s q e = (t r s (fun ws s1 => ws.length = n ∧ g ws s1 q e) e) := propext ⟨fun h => h, fun h => h⟩
theorem u_mNext  {r : Lv} {s : S} {c : Cn} : mNext  r s c = (c.nx r s) := propext ⟨fun h => h, fun h => h⟩
theorem u_mAsg {g : GT} {te : ET} {r : Lv} {s : S} {c : Cn} : mAsg g te r s c = (te r s (fun w s1 => g w r s1 c.nx c.ex) (fun k fs s' => c.ex k fs r s')) := propext ⟨fun h => h, fun h => h⟩
theorem u_mFor {it : IT} {g : Tgt} {body : ST} {r : Lv} {s : S} {c : Cn} : mFor it g body r s c = (it r s (fun xs l s1 => forL g body l xs r s1 c) (fun k fs s' => c.ex k fs r s')) := propext ⟨fun h => h, fun h => h⟩
theorem u_mComp {it : IT} {g : Tgt} {tt : BT} {te : ET} {vs : List Nat} {r : Lv} {s : S} {q : QW} {e : QX} : mComp it g tt te vs r s q e = (it r s (fun xs l s1 => compL g tt te (wipeL r vs) l xs [] s1 (fun ws s2 => q (.lst ws) s2)) e) := propext ⟨fun h => h, fun h => h⟩
theorem u_mCompN {it : IT} {g : Tgt} {tt : BT} {te : ET} {vs : List Nat} {r : Lv} {s : S} {q : QW} {e : QX} : mCompN it g tt te vs r s q e = (it r s (fun xs l s1 => compL g tt te (wipeL r vs) l xs [] s1 (fun ws s2 => q (.ref s2.length) (s2 ++ [.lst ws]))) e) := propext ⟨fun h => h, fun h => h⟩
theorem u_iSeqM {te : ET} {r : Lv} {s : S} {q : (List W → Live → S → Prop)} {e : QX} : iSeqM te r s q e = (te r s (fun w s1 => seqOf w s1 fun xs l => q xs l s1) e) := propext ⟨fun h => h, fun h => h⟩
theorem u_mEnum {tl : LT} {r : Lv} {s : S} {q : (List W → Live → S → Prop)} {e : QX} : mEnum tl r s q e = (tl r s (fun ws s1 => match ws with
  | [w] => match seqVals w s1 with
    | some xs => q (enumW xs) (liveOf w xs) s1
    | none => False
  | _ => False) e) := propext ⟨fun h => h, fun h => h⟩
theorem u_mZip {tl : LT} {r : Lv} {s : S} {q : (List W → Live → S → Prop)} {e : QX} : mZip tl r s q e = (tl r s (fun ws s1 => match ws with
  | [a, b] => match seqVals a s1, seqVals b s1 with
    | some xs, some ys => q (zipW xs ys) (liveOf a xs ++ liveOf b ys) s1
    | _, _ => False
  | _ => False) e) := propext ⟨fun h => h, fun h => h⟩
theorem u_mPar2 {i j : Nat} {tl : LT} {r : Lv} {s : S} {c : Cn} : mPar2 i j tl r s c = (tl r s (fun ws s1 => match ws with
  | [v, w] => c.nx ((r.set i (some v)).set j (some w)) s1
  | _ => False) (fun k fs s' => c.ex k fs r s')) := propext ⟨fun h => h, fun h => h⟩
theorem u_mPar3 {i j k : Nat} {tl : LT} {r : Lv} {s : S} {c : Cn} : mPar3 i j k tl r s c = (tl r s (fun ws s1 => match ws with
  | [u, v, w] => c.nx (((r.set i (some u)).set j (some v)).set k (some w)) s1
  | _ => False) (fun k fs s' => c.ex k fs r s')) := propext ⟨fun h => h, fun h => h⟩
theorem u_mPut {op : OS} {to ti tv : ET} {r : Lv} {s : S} {c : Cn} : mPut op to ti tv r s c = (tv r s (fun y s1 => to r s1 (fun w s2 => ti r s2 (fun i s3 => op w i y s3 (fun s4 => c.nx r s4)) (fun k fs s' => c.ex k fs r s')) (fun k fs s' => c.ex k fs r s')) (fun k fs s' => c.ex k fs r s')) := propext ⟨fun h => h, fun h => h⟩
theorem u_mAug {j : Nat} {op : O2} {te : ET} {r : Lv} {s : S} {c : Cn} : mAug j op te r s c = (match r[j]? with
  | some (some x) => te r s (fun y s1 => op x y s1 (fun z s2 => c.nx (r.set j (some z)) s2)) (fun k fs s' => c.ex k fs r s')
  | _ => False) := propext ⟨fun h => h, fun h => h⟩
theorem u_mAugS {get : O2} {op : O2} {put : OS} {to ti te : ET} {r : Lv} {s : S} {c : Cn} : mAugS get op put to ti te r s c = (to r s (fun w s1 => ti r s1 (fun i s2 => get w i s2 (fun x s3 => te r s3 (fun y s4 => op x y s4 (fun z s5 => put w i z s5 (fun s6 => c.nx r s6))) (fun k fs s' => c.ex k fs r s'))) (fun k fs s' => c.ex k fs r s')) (fun k fs s' => c.ex k fs r s')) := propext ⟨fun h => h, fun h => h⟩
theorem u_mBM {op : OM} {to : ET} {t : LT} {r : Lv} {s : S} {q : QW} {e : QX} : mBM op to t r s q e = (to r s (fun w s1 => isLst w s1 = true ∧ t r s1 (fun ws s2 => op w ws s2 q) e) e) := propext ⟨fun h => h, fun h => h⟩
theorem u_mBM0 {op : OM} {to : ET} {r : Lv} {s : S} {q : QW} {e : QX} : mBM0 op to r s q e = (to r s (fun w s1 => isLst w s1 = true ∧ op w [] s1 q) e) := propext ⟨fun h => h, fun h => h⟩
theorem u_mCallK {g : FT} {js : List Nat} {nk n : Nat} {t : LT} {r : Lv} {s : S} {q : QW} {e : QX} : mCallK g js nk n t r s q e = (t r s (fun ws s1 => match pickL js ws with
  | some us => ws.length = nk ∧ us.length = n ∧ g us s1 q e
  | none => False) e) := propext ⟨fun h => h, fun h => h⟩
theorem u_mListRg {t : RT} {r : Lv} {s : S} {q : QW} {e : QX} : mListRg t r s q e = (t r s (fun i j s1 => rgOkW i j ∧ q (.lst (rangeL i j)) s1) e) := propext ⟨fun h => h, fun h => h⟩
theorem u_mListRgN {t : RT} {r : Lv} {s : S} {q : QW} {e : QX} : mListRgN t r s q e = (t r s (fun i j s1 => rgOkW i j ∧ q (.ref s1.length) (s1 ++ [.lst (rangeL i j)])) e) := propext ⟨fun h => h, fun h => h⟩
theorem u_mTupRg {t : RT} {r : Lv} {s : S} {q : QW} {e : QX} : mTupRg t r s q e = (t r s (fun i j s1 => rgOkW i j ∧ q (.tup (rangeL i j)) s1) e) := propext ⟨fun h => h, fun h => h⟩
theorem u_mRg1 {ta : ET} {r : Lv} {s : S} {q : (Int → Int → S → Prop)} {e : QX} : mRg1 ta r s q e = (ta r s (fun w s1 => match w with
  | .int n => q 0 n s1
  | _ => False) e) := propext ⟨fun h => h, fun h => h⟩
theorem u_mRg2 {ta tb : ET} {r : Lv} {s : S} {q : (Int → Int → S → Prop)} {e : QX} : mRg2 ta tb r s q e = (ta r s (fun w s1 => tb r s1 (fun u s2 => match w, u with
  | .int i, .int j => q i j s2
  | _, _ => False) e) e) := propext ⟨fun h => h, fun h => h⟩
theorem u_iRngM1 {tl : LT} {r : Lv} {s : S} {q : (List W → Live → S → Prop)} {e : QX} : iRngM1 tl r s q e = (tl r s (fun ws s1 => match ws with
  | [.int j] => smallI j ∧ q (rangeW 0 j.toNat) [] s1
  | _ => False) e) := propext ⟨fun h => h, fun h => h⟩
theorem u_iRngM2 {tl : LT} {r : Lv} {s : S} {q : (List W → Live → S → Prop)} {e : QX} : iRngM2 tl r s q e = (tl r s (fun ws s1 => match ws with
  | [.int i, .int j] => smallI i ∧ smallI j ∧ q (rangeW i (j - i).toNat) [] s1
  | _ => False) e) := propext ⟨fun h => h, fun h => h⟩
theorem u_mSl {te : ET} {lo hi : PT'} {r : Lv} {s : S} {q : QW} {e : QX} : mSl te lo hi r s q e = (te r s (fun w s1 => lo r s1 (fun a s2 => hi r s2 (fun b s3 => match w with
  | .tup xs => q (.tup (cutW xs a b)) s3
  | w => match lstOf w s3 with
    | some xs => q (.lst (cutW xs a b)) s3
    | none => False) e) e) e) := propext ⟨fun h => h, fun h => h⟩
theorem u_pAt {t : ET} {r : Lv} {s : S} {q : (Option Int → S → Prop)} {e : QX} : pAt t r s q e = (t r s (fun w s1 => match w with
  | .int i => q (some i) s1
  | _ => False) e) := propext ⟨fun h => h, fun h => h⟩
theorem u_pNo  {v0 : Lv} {s : S} {q : (Option Int → S → Prop)} {v3 : QX} : pNo  v0 s q v3 = (q none s) := propext ⟨fun h => h, fun h => h⟩
theorem u_mIsi {T : String} {te : ET} {r : Lv} {s : S} {q : QW} {e : QX} : mIsi T te r s q e = (te r s (fun w s1 => match tyNm w s1 with
  | some t => q (.bl (isTy t T)) s1
  | none => False) e) := propext ⟨fun h => h, fun h => h⟩
theorem u_mNever  {v0 : Lv} {v1 : S} {v2 : Cn} : mNever  v0 v1 v2 = (False) := propext ⟨fun h => h, fun h => h⟩
theorem u_gtTp {n : Nat} {gs : GTs} {w : W} {r : Lv} {s : S} {q : (Lv → S → Prop)} {e : (Str → Fl → Lv → S → Prop)} : gtTp n gs w r s q e = (match itemsOf w s with
  | some ws => ws.length = n ∧ gs ws r s q e
  | none => False) := propext ⟨fun h => h, fun h => h⟩
theorem u_gtCons {g : GT} {gs : GTs} {ws : List W} {r : Lv} {s : S} {q : (Lv → S → Prop)} {e : (Str → Fl → Lv → S → Prop)} : gtCons g gs ws r s q e = (match ws with
  | [] => False
  | w :: ws => g w r s (fun r1 s1 => gs ws r1 s1 q e) e) := propext ⟨fun h => h, fun h => h⟩
theorem u_gtNil  {ws : List W} {r : Lv} {s : S} {q : (Lv → S → Prop)} {v4 : (Str → Fl → Lv → S → Prop)} : gtNil  ws r s q v4 = (ws = [] ∧ q r s) := propext ⟨fun h => h, fun h => h⟩
theorem u_gtNm {i : Nat} {w : W} {r : Lv} {s : S} {q : (Lv → S → Prop)} {v4 : (Str → Fl → Lv → S → Prop)} : gtNm i w r s q v4 = (q (r.set i (some w)) s) := propext ⟨fun h => h, fun h => h⟩
theorem u_gtSub {op : OS} {to ti : ET} {y : W} {r : Lv} {s : S} {q : (Lv → S → Prop)} {e : (Str → Fl → Lv → S → Prop)} : gtSub op to ti y r s q e = (to r s (fun w s2 => ti r s2 (fun i s3 => op w i y s3 (fun s4 => q r s4)) (fun k fs s' => e k fs r s')) (fun k fs s' => e k fs r s')) := propext ⟨fun h => h, fun h => h⟩
theorem u_mBreak  {r : Lv} {s : S} {c : Cn} : mBreak  r s c = (c.bk r s) := propext ⟨fun h => h, fun h => h⟩
theorem u_mCont  {r : Lv} {s : S} {c : Cn} : mCont  r s c = (c.ct r s) := propext ⟨fun h => h, fun h => h⟩
theorem u_mDisp {ks : List Str} {tl : LT} {r : Lv} {s : S} {q : QW} {e : QX} : mDisp ks tl r s q e = (tl r (s ++ [.dct []]) (fun ws s1 => s1[s.length]? = some (.dct []) ∧ q (.ref s.length) (s1.set s.length (.dct (mergeW [] ((ks.map Sum.inr).zip ws))))) e) := propext ⟨fun h => h, fun h => h⟩
theorem u_bYes  {v0 : Lv} {s : S} {q : (Bool → S → Prop)} {v3 : QX} : bYes  v0 s q v3 = (q true s) := propext ⟨fun h => h, fun h => h⟩
theorem u_mWhile {b : BT} {body : ST} {r : Lv} {s : S} {c : Cn} : mWhile b body r s c = (∃ k, whileN b body k r s c) := propext ⟨fun h => h, fun h => h⟩

theorem u_oI {C : Int → Int → Prop} {g : Int → Int → Int} {i j : Int} {s : S} {q : QW} : oI C g (.int i) (.int j) s q = (C i j ∧ q (.int (g i j)) s) := propext ⟨fun h => h, fun h => h⟩
theorem u_oB {g : Int → Int → Bool} {i j : Int} {s : S} {q : QW} : oB g (.int i) (.int j) s q = q (.bl (g i j)) s := propext ⟨fun h => h, fun h => h⟩
theorem u_oIs {neg : Bool} {a : W} {s : S} {q : QW} : oIs neg a .non s q = q (.bl (neg != isNonW a)) s := propext ⟨fun h => h, fun h => h⟩
theorem u_seqT {xs : List W} {s : S} {q : List W → Live → Prop} : seqOf (.tup xs) s q = q xs [] := propext ⟨fun h => h, fun h => h⟩
theorem u_seqL {xs : List W} {s : S} {q : List W → Live → Prop} : seqOf (.lst xs) s q = q xs [] := propext ⟨fun h => h, fun h => h⟩
theorem u_seqS {xs : List Int} {s : S} {q : List W → Live → Prop} : seqOf (.scr xs) s q = q (xs.map W.int) [] := propext ⟨fun h => h, fun h => h⟩
theorem u_seqR {n : Nat} {xs : List W} {s : S} {q : List W → Live → Prop} (h : s[n]? = some (.lst xs)) : seqOf (.ref n) s q = q xs [(n, xs)] := by
  unfold seqOf
  simp only [h]
end Fw

set_option maxRecDepth 100000
set_option maxHeartbeats 4000000
namespace Fw
open PySem PySem.Spec PyProof.Rows L2

/-! ## two texts compared -/
def oEqT (neg : Bool) : O2 := fun a b s q => match a, b with
  | .str x, .str y => q (.bl (neg != decide (x = y))) s
  | _, _ => False
theorem s_eqT {G : Gx} : S2 G rEq (oEqT false) := by
  intro m H s x y a b q Q hS ha hb h hq
  unfold oEqT at h
  split at h
  · simp only [RelW] at ha hb
    subst ha; subst hb
    refine ⟨rfl, ?_⟩
    rw [dec_str, show (∀ x y : Str, (x == y) = decide (x = y)) from fun x y => by rw [Bool.eq_iff_iff]; simp]
    exact hq _ s (by simpa using h) m H _ .refl hS (by simp only [RelW])
  · exact h.elim
theorem s_neT {G : Gx} : S2 G rNe (oEqT true) := by
  intro m H s x y a b q Q hS ha hb h hq
  unfold oEqT at h
  split at h
  · simp only [RelW] at ha hb
    subst ha; subst hb
    refine ⟨rfl, ?_⟩
    rw [dec_str, show (∀ x y : Str, (x == y) = decide (x = y)) from fun x y => by rw [Bool.eq_iff_iff]; simp]
    exact hq _ s (by simpa using h) m H _ .refl hS (by simp only [RelW])
  · exact h.elim
theorem u_oEqT {neg : Bool} {x y : Str} {s : S} {q : QW} : oEqT neg (.str x) (.str y) s q = q (.bl (neg != decide (x = y))) s := propext ⟨fun h => h, fun h => h⟩

/-! ## sizes of data that are shown -/
structure Sz (d : PyData) (k h : Nat) : Prop where
  lay : d.canLay0 = true
  short : d.intsShort 13 = true
  sh : d.showable = true
  dp : d.depth ≤ h
  wt : d.weight ≤ k
structure SzL (ds : List PyData) (k h : Nat) : Prop where
  lay : PyData.canLayAll0 ds = true
  short : PyData.intsShortAll 13 ds = true
  sh : PyData.showableAll ds = true
  dp : PyData.depthAll ds ≤ h
  wt : PyData.weightAll ds ≤ k
theorem Sz.mono {d : PyData} {k h k' h' : Nat} (z : Sz d k h) (hk : k ≤ k') (hh : h ≤ h') : Sz d k' h' := ⟨z.lay, z.short, z.sh, Nat.le_trans z.dp hh, Nat.le_trans z.wt hk⟩
theorem SzL.mono {d : List PyData} {k h k' h' : Nat} (z : SzL d k h) (hk : k ≤ k') (hh : h ≤ h') : SzL d k' h' := ⟨z.lay, z.short, z.sh, Nat.le_trans z.dp hh, Nat.le_trans z.wt hk⟩
theorem sz_nil {h : Nat} : SzL [] 0 h := ⟨rfl, rfl, rfl, by simp [PyData.depthAll], by simp [PyData.weightAll]⟩
theorem sz_cons {d : PyData} {ds : List PyData} {k k' h : Nat} (a : Sz d k h) (b : SzL ds k' h) : SzL (d :: ds) (k + 1 + k') h := by
  refine ⟨?_, ?_, ?_, ?_, ?_⟩
  · simp only [PyData.canLayAll0, a.lay, b.lay, Bool.and_self]
  · simp only [PyData.intsShortAll, a.short, b.short, Bool.and_self]
  · simp only [PyData.showableAll, a.sh, b.sh, Bool.and_self]
  · have := a.dp; have := b.dp; simp only [PyData.depthAll]; omega
  · have := a.wt; have := b.wt; simp only [PyData.weightAll]; omega
theorem sz_all {ds : List PyData} {k h : Nat} (a : ∀ d ∈ ds, Sz d k h) : SzL ds (ds.length * (k + 1)) h := by
  induction ds with
  | nil => exact sz_nil.mono (by omega) (Nat.le_refl _)
  | cons d ds ih =>
    have := sz_cons (a d (by simp)) (ih fun x hx => a x (by simp [hx]))
    refine this.mono ?_ (Nat.le_refl _)
    rw [List.length_cons, Nat.succ_mul]; omega
theorem sz_tup {ds : List PyData} {k h : Nat} (a : SzL ds k h) : Sz (.tuple ds) k (h + 1) := by
  refine ⟨?_, ?_, ?_, ?_, ?_⟩
  · simp only [PyData.canLay0, a.lay]
  · simp only [PyData.intsShort, a.short]
  · simp only [PyData.showable, a.sh]
  · have := a.dp; simp only [PyData.depth]; omega
  · have := a.wt; simp only [PyData.weight]; omega
theorem sz_lst {ds : List PyData} {k h : Nat} (a : SzL ds k h) : Sz (.list ds) k (h + 1) := by
  refine ⟨?_, ?_, ?_, ?_, ?_⟩
  · simp only [PyData.canLay0, a.lay]
  · simp only [PyData.intsShort, a.short]
  · simp only [PyData.showable, a.sh]
  · have := a.dp; simp only [PyData.depth]; omega
  · have := a.wt; simp only [PyData.weight]; omega
theorem sz_int {i : Int} {h : Nat} (h0 : -1000000000000 < i) (h1 : i < 10000000000000) : Sz (.int i) 50 h := by
  have hl : i.natAbs.log2 < 50 := by
    by_cases z : i.natAbs = 0
    · rw [z]; decide
    · exact (Nat.log2_lt z).mpr (by omega)
  refine ⟨rfl, ?_, ?_, by simp [PyData.depth], ?_⟩
  · simp only [PyData.intsShort, decide_eq_true_eq]
    show (Str.ofString (toString i)).length ≤ 13
    by_cases h2 : 0 ≤ i
    · exact PyProof.Rows.toString_length_le h2 (by decide) (by omega)
    · have := int_text_length_le10 (a := i) (k := 12) (by decide) (by omega)
      rw [ofString_len]; exact this
  · simp only [PyData.showable, decide_eq_true_eq]; omega
  · simp only [PyData.weight]; split <;> omega
theorem sz_none {h : Nat} : Sz .none 0 h := ⟨rfl, rfl, rfl, by simp [PyData.depth], by simp [PyData.weight]⟩
theorem sz_bool {b : Bool} {h : Nat} : Sz (.bool b) 0 h := ⟨rfl, rfl, rfl, by simp [PyData.depth], by simp [PyData.weight]⟩
theorem Sz.okShow {d : PyData} {k h : Nat} (z : Sz d k h) (hk : k ≤ 1048576) (hh : h ≤ 64) (hd : isDisplay d = true) : OkShow d := by
  refine ⟨z.sh, PyData.hasDict_of_canLay d z.lay, hd, by have := z.dp; omega, ?_⟩
  have := shown_le13 (d := d) (by
    unfold PyData.layable0
    simp only [Bool.and_eq_true, decide_eq_true_eq]
    exact ⟨⟨z.lay, by have := z.dp; omega⟩, by have := z.wt; omega⟩) z.short
  rw [sizeLine_eq]; omega
theorem Sz.shaped {d : PyData} {k h : Nat} (z : Sz d k h) (hh : h ≤ 64) : SeqAt.shaped d = true := by
  unfold SeqAt.shaped
  rw [Bool.and_eq_true]
  exact ⟨z.lay, decide_eq_true (by have := z.dp; omega)⟩
theorem sz_ints {is : List Int} {h : Nat} (hi : ∀ i ∈ is, -1000000000000 < i ∧ i < 10000000000000) : SzL (is.map PyData.int) (is.length * 51) h := by
  have := sz_all (ds := is.map PyData.int) (k := 50) (h := h) (fun d hd => by
    obtain ⟨i, hm, rfl⟩ := List.mem_map.mp hd
    exact sz_int (hi i hm).1 (hi i hm).2)
  simpa using this
end Fw

set_option maxRecDepth 100000
set_option maxHeartbeats 4000000
namespace Fw
open PySem PySem.Spec PyProof.Rows L2

/-! ## the end of a law whose def has a meaning in the middle layer -/
abbrev AnsT (s₁ : Shared) (r : Result) (s' : Shared) : Prop := r = .ok (.ret (.bool true)) ∧ OldK s₁.heap s'.heap ∧ s'.os = s₁.os ∧ AllBare s'.gens
section
variable {P : Program} {w : World} {K : PySem.W.Frag} {mg mb : Str → Option Value} {k : Nat} {fa a : Addr} {fd : FuncData} {x : Str} {g : FT} {s₁ : Shared} {vs : List Value} {ns : List Int} {nm : Str} {kws : List (List Str × List Nat)}
/-- the script is all that is tracked, if anything is -/
structure Alone (K : PySem.W.Frag) (H : Hp) (h : Heap) (a : Addr) (vs : List Value) : Prop where
  at_ : h.get? a = some { cls := .type "list", data := .seq vs.toArray }
  one : ∀ b, H b ≠ none → b = a
  out : H a ≠ none → K.lookup a = none
theorem Alone.names {H : Hp} {h : Heap} (A : Alone K H h a vs) {b : Addr} {m : Str → Option Value} (n : h.Ns b m) : (hidT h H).Ns b m := by
  obtain ⟨o, es, ep, e, d, r⟩ := n
  have q : H b = none := by
    by_cases z : H b = none
    · exact z
    · have := A.one b z
      subst this
      rw [A.at_] at e
      cases e
      cases d
  exact ⟨o, es, ep, hidT_get e q, d, r⟩
theorem Alone.inK {H : Hp} {h : Heap} (A : Alone K H h a vs) (KX : K.In h) : K.In (hidT h H) := by
  intro b o e
  refine hidT_get (KX b o e) ?_
  by_cases z : H b = none
  · exact z
  · have := A.one b z
    subst this
    rw [A.out z] at e
    cases e
theorem run_alone {H : Hp} (A : Alone K H s₁.heap a vs) (KX : K.In s₁.heap) (h1 : s₁.heap.Ns mainGlobals mg) (h2 : s₁.heap.Ns builtinsNs mb) (h3 : ∀ x : Str, x ≠ "__name__" → mb x = bootBuiltins x) (h4 : s₁.heap.NoLimit) (h5 : s₁.gens = #[])
    (room : Room k callerA) (hfa : mg nm = some (.ref fa)) (F : ∀ base : Heap, K.In base → base.Ns mainGlobals mg → Has P w K mg base k nm [x] kws g)
    (hO : Only H) (ok : HOk P w H s₁.heap) (hS : FzS ⟨K, mg⟩ ⟨[], []⟩ H a (ns.map V.int)) (law : g [.scr ns] [] (fun w _ => w = .bl true) (fun _ _ _ => False)) :
    codeAny (model P w) callerA (.call (.ref fa) ⟨[.ref a], []⟩) (AnsT s₁) s₁ := by
  obtain ⟨mc, l1, l2⟩ := h4
  have md : Mod K mg (hidT s₁.heap H) := ⟨A.inK KX, A.names h1, ⟨mb, A.names h2, h3⟩, ⟨mc, A.names l1, l2⟩⟩
  have en : Env0 P w K mg (hidT s₁.heap H) callerA [] s₁ H := by
    refine ⟨rfl, md, fun b o e => of_hidT e, Nat.le_of_eq (hidT_size _ _), trivial, ?_, ok, .of_eq h5⟩
    intro b hb
    cases hb
  have sp : spG ⟨K, mg⟩ [x].length g [.ref a] H (fun v _ => v = .bl true) fun _ _ _ => False := by
    refine ⟨rfl, [.scr ns], [], ⟨[], []⟩, _, _, RelWs.cons (by simp only [RelW]; exact ⟨a, rfl, hS⟩) .nil, ?_, law, ?_, ?_⟩
    · refine ⟨rfl, List.nodup_nil, ?_, ?_, ?_, ?_⟩
      · intro b hb; cases hb
      · intro b hb; cases hb
      · intro n c e; simp at e
      · intro n b e; simp at e
    · rintro _ s' rfl m' H' v - - r
      simpa only [RelW] using r
    · intro c fs s' z
      exact z.elim
  obtain ⟨f, fd, F', hm, -, hb, -⟩ := (F _ md.1 (A.names h1)).ex
  have ef := hm.symm.trans hfa
  cases ef
  have run := F'.run callerA [] s₁ H ⟨[.ref a], []⟩ [.ref a] [.ref a] _ _ room rfl en (hb s₁ [.ref a] KX rfl) (.cons rfl .nil) sp
  refine codeAny_mono run fun r s' h => ?_
  match r, h with
  | .error e, h => exact absurd h (by rintro ⟨_, _, _, _, _, _, _, _, _, _, _, _, z⟩; exact z)
  | .ok (.ret u), ⟨v, H', os, bare, un, ok', rv, z⟩ =>
    have zv : v = .bl true := z
    subst zv
    have zu : u = Value.bool true := rv
    subst zu
    refine ⟨rfl, OldK.of_keep fun b o e => ?_, os, bare⟩
    by_cases q : H b = none
    · refine un.keep b o e q ?_ (by simp)
      intro z; cases z
    · rcases hO b with z | ⟨ob, xs, z⟩
      · exact absurd z q
      · have f1 := (ok b _ z).1
        have f2 := (ok' b _ (un.frzs b ob _ z)).1
        rw [e] at f1
        cases f1
        exact f2
/-- the call of a law whose def is worth g -/
theorem end_call (KX : K.In s₁.heap) (h1 : s₁.heap.Ns mainGlobals mg) (h2 : s₁.heap.Ns builtinsNs mb) (h3 : ∀ x : Str, x ≠ "__name__" → mb x = bootBuiltins x) (h4 : s₁.heap.NoLimit) (h5 : s₁.gens = #[])
    (at_ : s₁.heap.get? a = some { cls := .type "list", data := .seq vs.toArray }) (hi : IntsAre vs ns) (hl : ns.length ≤ sizeLine) (room : Room k callerA)
    (hfa : mg nm = some (.ref fa)) (F : ∀ base : Heap, K.In base → base.Ns mainGlobals mg → Has P w K mg base k nm [x] kws g)
    (law : g [.scr ns] [] (fun w _ => w = .bl true) (fun _ _ _ => False)) : codeAny (model P w) callerA (.call (.ref fa) ⟨[.ref a], []⟩) (AnsT s₁) s₁ := by
  have rv := vals_ints hi
  have lv := hi.length
  by_cases q : K.lookup a = none
  · let H : Hp := fun b => if b = a then some (.frz { cls := .type "list", data := .seq vs.toArray } (.lst (ns.map V.int))) else none
    have Ha : H a = some (.frz { cls := .type "list", data := .seq vs.toArray } (.lst (ns.map V.int))) := if_pos rfl
    have Hb : ∀ {b}, b ≠ a → H b = none := fun n => if_neg n
    have A : Alone K H s₁.heap a vs := by
      refine ⟨at_, fun b z => ?_, fun _ => q⟩
      by_cases n : b = a
      · exact n
      · exact absurd (Hb n) z
    have hz : FzS ⟨K, mg⟩ ⟨[], []⟩ H a (ns.map V.int) := Or.inl ⟨List.not_mem_nil, List.not_mem_nil, Or.inr ⟨_, Ha⟩⟩
    refine run_alone A KX h1 h2 h3 h4 h5 room hfa F (fun b => ?_) (fun b u z => ?_) hz law
    · by_cases n : b = a
      · subst n; exact .inr ⟨_, _, Ha⟩
      · exact .inl (Hb n)
    · by_cases n : b = a
      · subst n
        rw [Ha] at z
        cases z
        exact ⟨at_, by simpa using hl, vs, _, rv, at_⟩
      · rw [Hb n] at z
        cases z
  · obtain ⟨o, e⟩ := Option.ne_none_iff_exists'.mp q
    have e2 := KX a o e
    rw [at_] at e2
    cases e2
    have A : Alone K (fun _ => none) s₁.heap a vs := ⟨at_, fun b z => absurd rfl z, fun z => absurd rfl z⟩
    refine run_alone A KX h1 h2 h3 h4 h5 room hfa F (fun _ => .inl rfl) (fun b u z => ?_) (.inr ⟨_, vs.toArray, _, e, rfl, rfl, rfl, by rw [List.size_toArray, lv]; exact hl, by simpa using rv⟩) law
    have z' : (none : Option HO) = some u := z
    cases z'
end
/-- for the head's case hc -/
theorem walk_g {l : PySem.W.OpenLaw} {n k : Nat} {q : Program} {loose : List Str} {XP : (Str → Option Value) → Heap → Prop} {YP : World → Heap → Prop} {d : DefRec} {x : Str} {g : FT}
    (hn : l.most = some n) (hs : n ≤ sizeLine) (hd : d.params.defaults = []) (room : Room k callerA)
    (F : ∀ (w : World) (mg : Str → Option Value) (fa : Addr) (h : Heap), YP w h → h.Ns mainGlobals mg → mg d.name = some (.ref fa) → ∃ K : PySem.W.Frag, K.In h ∧ ∀ base : Heap, K.In base → base.Ns mainGlobals mg → Has l.prog w K mg base k d.name [x] [] g)
    (law : ∀ ns : List Int, ns.length ≤ n → g [.scr ns] [] (fun w _ => w = .bl true) (fun _ _ _ => False)) :
    PySem.W.WalkO q loose XP YP l.row.toRowW d [] (fun f vs => PySem.call f vs) := by
  refine Att.attach_call hn hd fun w s₀ s₁ mg mb fa o pm cd doc a vs ns G Y h1 h2 h3 hm hobj hi hlen hg => ?_
  obtain ⟨K, KX, hF⟩ := F w mg fa _ Y G.T.g hm
  exact end_call KX G.T.g G.T.b G.T.builtins G.T.nolimit hg hobj hi (Nat.le_trans hlen hs) room hm hF (law ns hlen)

/-! ## defs by the head's facts -/
theorem fun_of_D {K : PySem.W.Frag} {x : Str} {st : Stmt} {f : Addr} {fd : FuncData} (F : FunD K x x (defArgs st) (defBody st) (defScope st) [] [] f fd) : Fun K x x st f fd := by
  obtain ⟨oc, od, dV, kV, doc, pm, an, cdv, ct, osl, e, lk, hc, hD, hK⟩ := F.ex
  rcases hD with ⟨-, rfl⟩ | ⟨z, -⟩
  · exact ⟨⟨oc, od, kV, doc, pm, an, cdv, ct, osl, e, lk, hc⟩, F.kp⟩
  · exact absurd rfl z
theorem fd_of {K : PySem.W.Frag} {x : Str} {st : Stmt} {f : Addr} {fd : FuncData} (F : Fun K x x st f fd) : ∃ (kV doc pm : Value) (an : Option Addr) (cdv ct : Value), fd = PySem.W.fnOf x x (defArgs st) (defBody st) (defScope st) .none kV doc pm an cdv ct := by
  obtain ⟨oc, od, kV, doc, pm, an, cdv, ct, osl, e, lk, hc⟩ := F.ex
  exact ⟨kV, doc, pm, an, cdv, ct, e⟩
end Fw

set_option maxRecDepth 100000
set_option maxHeartbeats 4000000
namespace Fw
open PySem PySem.Spec PyProof.Rows L2
def topS (i : Nat) : Stmt := PySem.Challenge.pw_wrapcount_k11_whole_both_sides_of_an_ope.main.body.getD i (.Pass ⟨0, 0, 0, 0⟩)
/-! ### is_integer -/
abbrev st_is_integer : Stmt := topS 10
theorem sc_is_integer : FnScope ["value"] ["value"] (defScope st_is_integer) := ⟨rfl, rfl, rfl, by decide +kernel, rfl, by decide +kernel, by decide +kernel⟩
def t_is_integer : ST := (mRet (mAnd (mIsi "int" (mVar 0)) (mNot (mIsi "bool" (mVar 0)))))
theorem has_is_integer {P : Program} {w : World} {K : PySem.W.Frag} {mg : Str → Option Value} {base : Heap} (bl : Blt mg) (D : DefT K mg "is_integer" st_is_integer ["value"] []) :
    Has P w K mg base 1 "is_integer" ["value"] [] (fnM 1 (t_is_integer)) := by
  have nd := sc_is_integer.nd
  refine D.has (k := 0) sc_is_integer fun f cdv A outer s H E rm hgd => ?_
  have tk : Takes (cxOf (L2.CX P w) P w K mg base ["value"] "is_integer" (defScope st_is_integer) f cdv A outer s H E) (fun c d _ H' => E c d H') := takes_of rfl rfl rfl rfl
  exact (dss_one (ds_ret (de_and (de_isi "int" bl.isinstance bl.int (de_var 0)) (de_one (de_not (de_isi "bool" bl.isinstance bl.bool (de_var 0)))))))
/-! ### is_between -/
abbrev st_is_between : Stmt := topS 11
theorem sc_is_between : FnScope ["value", "low", "high"] ["value", "low", "high"] (defScope st_is_between) := ⟨rfl, rfl, rfl, by decide +kernel, rfl, by decide +kernel, by decide +kernel⟩
def t_is_between (g_is_integer : FT) : ST := (mRet (mAnd (mCall g_is_integer 1 (mCons (mVar 0) mNil)) (mChain oLe oLe (mVar 1) (mVar 0) (mVar 2))))
theorem has_is_between {P : Program} {w : World} {K : PySem.W.Frag} {mg : Str → Option Value} {base : Heap} {g_is_integer : FT} (bl : Blt mg) (D : DefT K mg "is_between" st_is_between ["value", "low", "high"] [])
    (k_is_integer : Has P w K mg base 1 "is_integer" ["value"] [] g_is_integer) :
    Has P w K mg base 2 "is_between" ["value", "low", "high"] [] (fnM 3 (t_is_between g_is_integer)) := by
  have h_is_integer := k_is_integer.mono (show _ ≤ 1 by decide)
  have nd := sc_is_between.nd
  refine D.has (k := 1) sc_is_between fun f cdv A outer s H E rm hgd => ?_
  have tk : Takes (cxOf (L2.CX P w) P w K mg base ["value", "low", "high"] "is_between" (defScope st_is_between) f cdv A outer s H E) (fun c d _ H' => E c d H') := takes_of rfl rfl rfl rfl
  exact (dss_one (ds_ret (de_and (de_go h_is_integer rm (gdX hgd) tk (da_cons (de_var 0) da_nil)) (de_one (de_chain op_le op_le s_oB s_oB (de_var 1) (de_var 0) (de_var 2))))))
/-! ### is_pipe -/
abbrev st_is_pipe : Stmt := topS 12
theorem sc_is_pipe : FnScope ["value", "modulus", "places", "source", "target", "low", "high", "meter"] ["value", "modulus", "places"] (defScope st_is_pipe) := ⟨rfl, rfl, rfl, by decide +kernel, rfl, by decide +kernel, by decide +kernel⟩
def t_is_pipe (g_is_between : FT) : ST := (mSeq (mIfS (bOr (bNot (mT (mIsi "tuple" (mVar 0)))) (mT (mBin (oEq true) (mFn oLen (mCons (mVar 0) mNil)) (mK (.int 5))))) (mRet (mK (.bl false))) mNext)
  (mSeq (mAsg (gtTp 5 (gtCons (gtNm 3) (gtCons (gtNm 4) (gtCons (gtNm 5) (gtCons (gtNm 6) (gtCons (gtNm 7) gtNil)))))) (mVar 0))
  (mSeq (mIfS (bOr (bNot (mT (mCall g_is_between 3 (mCons (mVar 3) (mCons (mK (.int 0)) (mCons (mBin oSub (mVar 2) (mK (.int 1))) mNil)))))) (bOr (bNot (mT (mCall g_is_between 3 (mCons (mVar 4) (mCons (mK (.int 0)) (mCons (mBin oSub (mVar 2) (mK (.int 1))) mNil)))))) (mT (mBin (oEq false) (mVar 3) (mVar 4))))) (mRet (mK (.bl false))) mNext)
  (mSeq (mIfS (bOr (bNot (mT (mCall g_is_between 3 (mCons (mVar 6) (mCons (mK (.int 0)) (mCons (mK (.int 1000000000000)) mNil)))))) (bNot (mT (mCall g_is_between 3 (mCons (mVar 5) (mCons (mK (.int 0)) (mCons (mVar 6) mNil))))))) (mRet (mK (.bl false))) mNext)
  (mRet (mOr (mBin (oIs false) (mVar 7) (mK .non)) (mCall g_is_between 3 (mCons (mVar 7) (mCons (mK (.int 0)) (mCons (mBin oSub (mVar 1) (mK (.int 1))) mNil))))))))))
theorem has_is_pipe {P : Program} {w : World} {K : PySem.W.Frag} {mg : Str → Option Value} {base : Heap} {g_is_between : FT} (bl : Blt mg) (e_MAX_COUNT : ∃ t, mg "MAX_COUNT" = some (.int 1000000000000 t)) (D : DefT K mg "is_pipe" st_is_pipe ["value", "modulus", "places"] [])
    (k_is_between : Has P w K mg base 2 "is_between" ["value", "low", "high"] [] g_is_between) :
    Has P w K mg base 3 "is_pipe" ["value", "modulus", "places"] [] (fnM 8 (t_is_pipe g_is_between)) := by
  obtain ⟨_, c_MAX_COUNT⟩ := e_MAX_COUNT
  have h_is_between := k_is_between.mono (show _ ≤ 2 by decide)
  have nd := sc_is_pipe.nd
  refine D.has (k := 2) sc_is_pipe fun f cdv A outer s H E rm hgd => ?_
  have tk : Takes (cxOf (L2.CX P w) P w K mg base ["value", "modulus", "places", "source", "target", "low", "high", "meter"] "is_pipe" (defScope st_is_pipe) f cdv A outer s H E) (fun c d _ H' => E c d H') := takes_of rfl rfl rfl rfl
  exact (dss_cons (ds_if (dw_db (dw_or (db_not (db_val (de_isi "tuple" bl.isinstance bl.tuple (de_var 0)))) (dw_or1 (db_cmp (op_neM (ru rm 64)) s_eq (de_callB call_lenM s_len bl.len bt_len (da_cons (de_var 0) da_nil)) de_int)))) (dss_one (ds_ret de_bl)) dss_nil)
  (dss_cons (ds_asg (de_var 0) (dg_tp rfl (dgs_cons (dg_nm 3 nd) (dgs_cons (dg_nm 4 nd) (dgs_cons (dg_nm 5 nd) (dgs_cons (dg_nm 6 nd) (dgs_cons (dg_nm 7 nd) dgs_nil)))))))
  (dss_cons (ds_if (dw_db (dw_or (db_not (db_val (de_go h_is_between rm (gdX hgd) tk (da_cons (de_var 3) (da_cons de_int (da_cons (de_bin op_subI s_oI (de_var 2) de_int) da_nil)))))) (dw_or (db_not (db_val (de_go h_is_between rm (gdX hgd) tk (da_cons (de_var 4) (da_cons de_int (da_cons (de_bin op_subI s_oI (de_var 2) de_int) da_nil)))))) (dw_or1 (db_cmp (op_eqM (ru rm 64)) s_eq (de_var 3) (de_var 4)))))) (dss_one (ds_ret de_bl)) dss_nil)
  (dss_cons (ds_if (dw_db (dw_or (db_not (db_val (de_go h_is_between rm (gdX hgd) tk (da_cons (de_var 6) (da_cons de_int (da_cons (de_gint c_MAX_COUNT) da_nil)))))) (dw_or1 (db_not (db_val (de_go h_is_between rm (gdX hgd) tk (da_cons (de_var 5) (da_cons de_int (da_cons (de_var 6) da_nil))))))))) (dss_one (ds_ret de_bl)) dss_nil)
  (dss_one (ds_ret (de_or (de_cmp op_isN s_is (de_var 7) de_non) (de_one (de_go h_is_between rm (gdX hgd) tk (da_cons (de_var 7) (da_cons de_int (da_cons (de_bin op_subI s_oI (de_var 1) de_int) da_nil))))))))))))
/-! ### is_open_pipe -/
abbrev st_is_open_pipe : Stmt := topS 13
theorem sc_is_open_pipe : FnScope ["pipe"] ["pipe"] (defScope st_is_open_pipe) := ⟨rfl, rfl, rfl, by decide +kernel, rfl, by decide +kernel, by decide +kernel⟩
def t_is_open_pipe : ST := (mRet (mAnd (mBin (oIs false) (mBin oIx (mVar 0) (mK (.int 4))) (mK .non)) (mBin oLt (mBin oIx (mVar 0) (mK (.int 2))) (mBin oIx (mVar 0) (mK (.int 3))))))
theorem has_is_open_pipe {P : Program} {w : World} {K : PySem.W.Frag} {mg : Str → Option Value} {base : Heap} (bl : Blt mg) (D : DefT K mg "is_open_pipe" st_is_open_pipe ["pipe"] []) :
    Has P w K mg base 1 "is_open_pipe" ["pipe"] [] (fnM 1 (t_is_open_pipe)) := by
  have nd := sc_is_open_pipe.nd
  refine D.has (k := 0) sc_is_open_pipe fun f cdv A outer s H E rm hgd => ?_
  have tk : Takes (cxOf (L2.CX P w) P w K mg base ["pipe"] "is_open_pipe" (defScope st_is_open_pipe) f cdv A outer s H E) (fun c d _ H' => E c d H') := takes_of rfl rfl rfl rfl
  exact (dss_one (ds_ret (de_and (de_cmp op_isN s_is (de_ix ix_2 s_ix (de_var 0) de_int) de_non) (de_one (de_cmp op_lt s_oB (de_ix ix_2 s_ix (de_var 0) de_int) (de_ix ix_2 s_ix (de_var 0) de_int))))))
/-! ### trees_of -/
abbrev st_trees_of : Stmt := topS 14
theorem sc_trees_of : FnScope ["places", "pipes", "trees", "pipe", "kept", "other", "tree"] ["places", "pipes"] (defScope st_trees_of) := ⟨rfl, rfl, rfl, by decide +kernel, rfl, by decide +kernel, by decide +kernel⟩
def t_trees_of_b1 : ST := (mSeq (mAsg (gtTp 2 (gtCons (gtNm 4) (gtCons (gtNm 5) gtNil))) (mTup (mCons (mBin oIx (mVar 2) (mBin oIx (mVar 3) (mK (.int 0)))) (mCons (mBin oIx (mVar 2) (mBin oIx (mVar 3) (mK (.int 1)))) mNil))))
  (mSeq (mIfS (mT (mBin (oEq false) (mVar 4) (mVar 5))) (mRet (mK .non)) mNext)
  (mSet 2 (mComp (iSeqM (mVar 2)) (.nm 6) bYes (mIf (mT (mBin (oIn false) (mVar 6) (mTup (mCons (mVar 4) (mCons (mVar 5) mNil))))) (mFn oMin (mCons (mVar 4) (mCons (mVar 5) mNil))) (mVar 6)) [6]))))
def t_trees_of : ST := (mSeq (mSet 2 (mListRg (mRg1 (mVar 0))))
  (mSeq (mFor (iSeqM (mVar 1)) (.nm 3) (t_trees_of_b1))
  (mRet (mVar 2))))
theorem has_trees_of {P : Program} {w : World} {K : PySem.W.Frag} {mg : Str → Option Value} {base : Heap} (bl : Blt mg) (D : DefT K mg "trees_of" st_trees_of ["places", "pipes"] []) :
    Has P w K mg base 1 "trees_of" ["places", "pipes"] [] (fnM 7 (t_trees_of)) := by
  have nd := sc_trees_of.nd
  refine D.has (k := 0) sc_trees_of fun f cdv A outer s H E rm hgd => ?_
  have tk : Takes (cxOf (L2.CX P w) P w K mg base ["places", "pipes", "trees", "pipe", "kept", "other", "tree"] "trees_of" (defScope st_trees_of) f cdv A outer s H E) (fun c d _ H' => E c d H') := takes_of rfl rfl rfl rfl
  have ps : PassesOwn (model P w) (cxOf (L2.CX P w) P w K mg base ["places", "pipes", "trees", "pipe", "kept", "other", "tree"] "trees_of" (defScope st_trees_of) f cdv A outer s H E).A (cxOf (L2.CX P w) P w K mg base ["places", "pipes", "trees", "pipe", "kept", "other", "tree"] "trees_of" (defScope st_trees_of) f cdv A outer s H E).env (cxOf (L2.CX P w) P w K mg base ["places", "pipes", "trees", "pipe", "kept", "other", "tree"] "trees_of" (defScope st_trees_of) f cdv A outer s H E).xe := passes_of rfl
  exact (dss_cons (ds_set 2 (de_listRg rfl bl.list (dr_1 bl.range (de_var 0))) nd)
  (dss_cons (ds_for ps rfl (di_seq (de_var 1)) (dt_nm 3 nd) (dss_cons (ds_asg (de_tup (da_cons (de_ix ix_2 s_ix (de_var 2) (de_ix ix_2 s_ix (de_var 3) de_int)) (da_cons (de_ix ix_2 s_ix (de_var 2) (de_ix ix_2 s_ix (de_var 3) de_int)) da_nil))) (dg_tp rfl (dgs_cons (dg_nm 4 nd) (dgs_cons (dg_nm 5 nd) dgs_nil))))
  (dss_cons (ds_if (db_cmp (op_eqM (ru rm 64)) s_eq (de_var 4) (de_var 5)) (dss_one (ds_ret de_non)) dss_nil)
  (dss_one (ds_setLc (own := [("tree", 6)]) 2 rfl nd rfl rfl rfl (di_seq (de_var 2)) (blkOk_by (by rfl)) (fun _ _ _ _ _ => (dt_nm 6 nd)) (fun _ _ _ _ _ => dts_yes) (fun _ _ _ _ _ => (de_if (db_cmp (op_inM (ru rm 65)) s_in (de_var 6) (de_tup (da_cons (de_var 4) (da_cons (de_var 5) da_nil)))) (de_callB (call_minM rfl) s_min bl.min bt_min (da_cons (de_var 4) (da_cons (de_var 5) da_nil))) (de_var 6))))))))
  (dss_one (ds_ret (de_var 2)))))
/-! ### check_network -/
abbrev st_check_network : Stmt := topS 15
theorem sc_check_network : FnScope ["value", "modulus", "places", "pipes", "index", "pipe"] ["value"] (defScope st_check_network) := ⟨rfl, rfl, rfl, by decide +kernel, rfl, by decide +kernel, by decide +kernel⟩
def t_check_network_b1 (g_is_between : FT) (g_is_pipe : FT) (g_trees_of : FT) (g_is_open_pipe : FT) : ST := (mIfS (bNot (mT (mCall g_is_pipe 3 (mCons (mVar 5) (mCons (mVar 1) (mCons (mVar 2) mNil)))))) mNever mNext)
def t_check_network (g_is_between : FT) (g_is_pipe : FT) (g_trees_of : FT) (g_is_open_pipe : FT) : ST := (mSeq (mIfS (bOr (bNot (mT (mIsi "tuple" (mVar 0)))) (mT (mBin (oEq true) (mFn oLen (mCons (mVar 0) mNil)) (mK (.int 3))))) mNever mNext)
  (mSeq (mAsg (gtTp 3 (gtCons (gtNm 1) (gtCons (gtNm 2) (gtCons (gtNm 3) gtNil)))) (mVar 0))
  (mSeq (mIfS (bNot (mT (mCall g_is_between 3 (mCons (mVar 1) (mCons (mK (.int 2)) (mCons (mK (.int 1000000)) mNil)))))) mNever mNext)
  (mSeq (mIfS (bNot (mT (mCall g_is_between 3 (mCons (mVar 2) (mCons (mK (.int 1)) (mCons (mK (.int 24)) mNil)))))) mNever mNext)
  (mSeq (mIfS (bOr (bNot (mT (mIsi "tuple" (mVar 3)))) (mT (mBin oGt (mFn oLen (mCons (mVar 3) mNil)) (mK (.int 60))))) mNever mNext)
  (mSeq (mFor (mEnum (mCons (mVar 3) mNil)) (.tp [(.nm 4), (.nm 5)]) (t_check_network_b1 g_is_between g_is_pipe g_trees_of g_is_open_pipe))
  (mIfS (mT (mBin (oIs false) (mCall g_trees_of 2 (mCons (mVar 2) (mCons (mComp (iSeqM (mVar 3)) (.nm 5) (mT (mCall g_is_open_pipe 1 (mCons (mVar 5) mNil))) (mVar 5) [5]) mNil))) (mK .non))) mNever mNext)))))))
theorem has_check_network {P : Program} {w : World} {K : PySem.W.Frag} {mg : Str → Option Value} {base : Heap} {g_is_between : FT} {g_is_pipe : FT} {g_trees_of : FT} {g_is_open_pipe : FT} (bl : Blt mg) (e_MAX_MODULUS : ∃ t, mg "MAX_MODULUS" = some (.int 1000000 t)) (e_MAX_PLACES : ∃ t, mg "MAX_PLACES" = some (.int 24 t)) (e_MAX_PIPES : ∃ t, mg "MAX_PIPES" = some (.int 60 t)) (D : DefT K mg "check_network" st_check_network ["value"] [])
    (k_is_between : Has P w K mg base 2 "is_between" ["value", "low", "high"] [] g_is_between)
    (k_is_pipe : Has P w K mg base 3 "is_pipe" ["value", "modulus", "places"] [] g_is_pipe)
    (k_trees_of : Has P w K mg base 1 "trees_of" ["places", "pipes"] [] g_trees_of)
    (k_is_open_pipe : Has P w K mg base 1 "is_open_pipe" ["pipe"] [] g_is_open_pipe) :
    Has P w K mg base 4 "check_network" ["value"] [] (fnM 6 (t_check_network g_is_between g_is_pipe g_trees_of g_is_open_pipe)) := by
  obtain ⟨_, c_MAX_MODULUS⟩ := e_MAX_MODULUS
  obtain ⟨_, c_MAX_PLACES⟩ := e_MAX_PLACES
  obtain ⟨_, c_MAX_PIPES⟩ := e_MAX_PIPES
  have h_is_between := k_is_between.mono (show _ ≤ 3 by decide)
  have h_is_pipe := k_is_pipe.mono (show _ ≤ 3 by decide)
  have h_trees_of := k_trees_of.mono (show _ ≤ 3 by decide)
  have h_is_open_pipe := k_is_open_pipe.mono (show _ ≤ 3 by decide)
  have nd := sc_check_network.nd
  refine D.has (k := 3) sc_check_network fun f cdv A outer s H E rm hgd => ?_
  have tk : Takes (cxOf (L2.CX P w) P w K mg base ["value", "modulus", "places", "pipes", "index", "pipe"] "check_network" (defScope st_check_network) f cdv A outer s H E) (fun c d _ H' => E c d H') := takes_of rfl rfl rfl rfl
  have ps : PassesOwn (model P w) (cxOf (L2.CX P w) P w K mg base ["value", "modulus", "places", "pipes", "index", "pipe"] "check_network" (defScope st_check_network) f cdv A outer s H E).A (cxOf (L2.CX P w) P w K mg base ["value", "modulus", "places", "pipes", "index", "pipe"] "check_network" (defScope st_check_network) f cdv A outer s H E).env (cxOf (L2.CX P w) P w K mg base ["value", "modulus", "places", "pipes", "index", "pipe"] "check_network" (defScope st_check_network) f cdv A outer s H E).xe := passes_of rfl
  exact (dss_cons (ds_if (dw_db (dw_or (db_not (db_val (de_isi "tuple" bl.isinstance bl.tuple (de_var 0)))) (dw_or1 (db_cmp (op_neM (ru rm 64)) s_eq (de_callB call_lenM s_len bl.len bt_len (da_cons (de_var 0) da_nil)) de_int)))) (dss_one ds_never) dss_nil)
  (dss_cons (ds_asg (de_var 0) (dg_tp rfl (dgs_cons (dg_nm 1 nd) (dgs_cons (dg_nm 2 nd) (dgs_cons (dg_nm 3 nd) dgs_nil)))))
  (dss_cons (ds_if (db_not (db_val (de_go h_is_between rm (gdX hgd) tk (da_cons (de_var 1) (da_cons de_int (da_cons (de_gint c_MAX_MODULUS) da_nil)))))) (dss_one ds_never) dss_nil)
  (dss_cons (ds_if (db_not (db_val (de_go h_is_between rm (gdX hgd) tk (da_cons (de_var 2) (da_cons de_int (da_cons (de_gint c_MAX_PLACES) da_nil)))))) (dss_one ds_never) dss_nil)
  (dss_cons (ds_if (dw_db (dw_or (db_not (db_val (de_isi "tuple" bl.isinstance bl.tuple (de_var 3)))) (dw_or1 (db_cmp op_gt s_oB (de_callB call_lenM s_len bl.len bt_len (da_cons (de_var 3) da_nil)) (de_gint c_MAX_PIPES))))) (dss_one ds_never) dss_nil)
  (dss_cons (ds_for ps rfl (di_enum bl.enumerate (da_cons (de_var 3) da_nil)) (dt_tp rfl (dts_cons (dt_nm 4 nd) (dts_cons (dt_nm 5 nd) dts_nil))) (dss_one (ds_if (db_not (db_val (de_go h_is_pipe rm (gdX hgd) tk (da_cons (de_var 5) (da_cons (de_var 1) (da_cons (de_var 2) da_nil)))))) (dss_one ds_never) dss_nil)))
  (dss_one (ds_if (db_cmp op_isN s_is (de_go h_trees_of rm (gdX hgd) tk (da_cons (de_var 2) (da_cons (de_comp (own := [("pipe", 5)]) rfl nd (di_seq (de_var 3)) (blkOk_by (by rfl)) (fun _ _ _ _ _ => (dt_nm 5 nd)) (fun _ _ _ _ _ => (dts_one (db_val (de_go h_is_open_pipe rm (gdX hgd) tk0 (da_cons (de_var 5) da_nil))))) (fun _ _ _ _ _ => (de_var 5))) da_nil))) de_non) (dss_one ds_never) dss_nil))))))))
/-! ### open_pipes -/
abbrev st_open_pipes : Stmt := topS 16
theorem sc_open_pipes : FnScope ["network", "index", "pipe"] ["network"] (defScope st_open_pipes) := ⟨rfl, rfl, rfl, by decide +kernel, rfl, by decide +kernel, by decide +kernel⟩
def t_open_pipes (g_check_network : FT) (g_is_open_pipe : FT) : ST := (mSeq (mExpr (mCall g_check_network 1 (mCons (mVar 0) mNil)))
  (mRet (mFn oTuple (mCons (mComp (mEnum (mCons (mBin oIx (mVar 0) (mK (.int 2))) mNil)) (.tp [(.nm 1), (.nm 2)]) (mT (mCall g_is_open_pipe 1 (mCons (mVar 2) mNil))) (mVar 1) [1, 2]) mNil))))
theorem has_open_pipes {P : Program} {w : World} {K : PySem.W.Frag} {mg : Str → Option Value} {base : Heap} {g_check_network : FT} {g_is_open_pipe : FT} (bl : Blt mg) (D : DefT K mg "open_pipes" st_open_pipes ["network"] [])
    (k_check_network : Has P w K mg base 4 "check_network" ["value"] [] g_check_network)
    (k_is_open_pipe : Has P w K mg base 1 "is_open_pipe" ["pipe"] [] g_is_open_pipe) :
    Has P w K mg base 5 "open_pipes" ["network"] [] (fnM 3 (t_open_pipes g_check_network g_is_open_pipe)) := by
  have h_check_network := k_check_network.mono (show _ ≤ 4 by decide)
  have h_is_open_pipe := k_is_open_pipe.mono (show _ ≤ 4 by decide)
  have nd := sc_open_pipes.nd
  refine D.has (k := 4) sc_open_pipes fun f cdv A outer s H E rm hgd => ?_
  have tk : Takes (cxOf (L2.CX P w) P w K mg base ["network", "index", "pipe"] "open_pipes" (defScope st_open_pipes) f cdv A outer s H E) (fun c d _ H' => E c d H') := takes_of rfl rfl rfl rfl
  exact (dss_cons (ds_expr (de_go h_check_network rm (gdX hgd) tk (da_cons (de_var 0) da_nil)))
  (dss_one (ds_ret (de_callTy call_tupleM s_tuple bl.tuple bt_tuple (da_cons (de_comp (own := [("index", 1), ("pipe", 2)]) rfl nd (di_enum bl.enumerate (da_cons (de_ix ix_2 s_ix (de_var 0) de_int) da_nil)) (blkOk_by (by rfl)) (fun _ _ _ _ _ => (dt_tp rfl (dts_cons (dt_nm 1 nd) (dts_cons (dt_nm 2 nd) dts_nil)))) (fun _ _ _ _ _ => (dts_one (db_val (de_go h_is_open_pipe rm (gdX hgd) tk0 (da_cons (de_var 2) da_nil))))) (fun _ _ _ _ _ => (de_var 1))) da_nil)))))
/-! ### groups_of -/
abbrev st_groups_of : Stmt := topS 17
theorem sc_groups_of : FnScope ["network", "places", "trees", "pipe", "found", "place", "tree", "group"] ["network"] (defScope st_groups_of) := ⟨rfl, rfl, rfl, by decide +kernel, rfl, by decide +kernel, by decide +kernel⟩
def t_groups_of (g_trees_of : FT) (g_is_open_pipe : FT) : ST := (mSeq (mSet 1 (mBin oIx (mVar 0) (mK (.int 1))))
  (mSeq (mSet 2 (mCall g_trees_of 2 (mCons (mVar 1) (mCons (mComp (iSeqM (mBin oIx (mVar 0) (mK (.int 2)))) (.nm 3) (mT (mCall g_is_open_pipe 1 (mCons (mVar 3) mNil))) (mVar 3) [3]) mNil))))
  (mSeq (mSet 4 (mComp (iRngM1 (mCons (mVar 1) mNil)) (.nm 6) bYes (mFn oTuple (mCons (mComp (iRngM1 (mCons (mVar 1) mNil)) (.nm 5) (mT (mBin (oEq false) (mBin oIx (mVar 2) (mVar 5)) (mVar 6))) (mVar 5) [5]) mNil)) [6]))
  (mRet (mFn oTuple (mCons (mComp (iSeqM (mVar 4)) (.nm 7) (mT (mBin (oEq true) (mVar 7) (mTup mNil))) (mVar 7) [7]) mNil))))))
theorem has_groups_of {P : Program} {w : World} {K : PySem.W.Frag} {mg : Str → Option Value} {base : Heap} {g_trees_of : FT} {g_is_open_pipe : FT} (bl : Blt mg) (D : DefT K mg "groups_of" st_groups_of ["network"] [])
    (k_trees_of : Has P w K mg base 1 "trees_of" ["places", "pipes"] [] g_trees_of)
    (k_is_open_pipe : Has P w K mg base 1 "is_open_pipe" ["pipe"] [] g_is_open_pipe) :
    Has P w K mg base 2 "groups_of" ["network"] [] (fnM 8 (t_groups_of g_trees_of g_is_open_pipe)) := by
  have h_trees_of := k_trees_of.mono (show _ ≤ 1 by decide)
  have h_is_open_pipe := k_is_open_pipe.mono (show _ ≤ 1 by decide)
  have nd := sc_groups_of.nd
  refine D.has (k := 1) sc_groups_of fun f cdv A outer s H E rm hgd => ?_
  have tk : Takes (cxOf (L2.CX P w) P w K mg base ["network", "places", "trees", "pipe", "found", "place", "tree", "group"] "groups_of" (defScope st_groups_of) f cdv A outer s H E) (fun c d _ H' => E c d H') := takes_of rfl rfl rfl rfl
  exact (dss_cons (ds_set 1 (de_ix ix_2 s_ix (de_var 0) de_int) nd)
  (dss_cons (ds_set 2 (de_go h_trees_of rm (gdX hgd) tk (da_cons (de_var 1) (da_cons (de_comp (own := [("pipe", 3)]) rfl nd (di_seq (de_ix ix_2 s_ix (de_var 0) de_int)) (blkOk_by (by rfl)) (fun _ _ _ _ _ => (dt_nm 3 nd)) (fun _ _ _ _ _ => (dts_one (db_val (de_go h_is_open_pipe rm (gdX hgd) tk0 (da_cons (de_var 3) da_nil))))) (fun _ _ _ _ _ => (de_var 3))) da_nil))) nd)
  (dss_cons (ds_setLc (own := [("tree", 6)]) 4 rfl nd rfl rfl rfl (di_range1 bl.range (da_cons (de_var 1) da_nil)) (blkOk_by (by rfl)) (fun _ _ _ _ _ => (dt_nm 6 nd)) (fun _ _ _ _ _ => dts_yes) (fun _ _ _ _ _ => (de_callTy call_tupleM s_tuple bl.tuple bt_tuple (da_cons (de_comp (own := [("place", 5)]) rfl nd (di_range1 bl.range (da_cons (de_var 1) da_nil)) (blkOk_by (by rfl)) (fun _ _ _ _ _ => (dt_nm 5 nd)) (fun _ _ _ _ _ => (dts_one (db_cmp (op_eqM (ru rm 64)) s_eq (de_ix ix_2 s_ix (de_var 2) (de_var 5)) (de_var 6)))) (fun _ _ _ _ _ => (de_var 5))) da_nil))))
  (dss_one (ds_ret (de_callTy call_tupleM s_tuple bl.tuple bt_tuple (da_cons (de_comp (own := [("group", 7)]) rfl nd (di_seq (de_var 4)) (blkOk_by (by rfl)) (fun _ _ _ _ _ => (dt_nm 7 nd)) (fun _ _ _ _ _ => (dts_one (db_cmp (op_neM (ru rm 64)) s_eq (de_var 7) (de_tup da_nil)))) (fun _ _ _ _ _ => (de_var 7))) da_nil)))))))
/-! ### entering_pipes -/
abbrev st_entering_pipes : Stmt := topS 18
theorem sc_entering_pipes : FnScope ["network", "places", "pipes", "index", "pipe"] ["network", "places"] (defScope st_entering_pipes) := ⟨rfl, rfl, rfl, by decide +kernel, rfl, by decide +kernel, by decide +kernel⟩
def t_entering_pipes : ST := (mSeq (mSet 2 (mBin oIx (mVar 0) (mK (.int 2))))
  (mRet (mFn oTuple (mCons (mComp (mEnum (mCons (mVar 2) mNil)) (.tp [(.nm 3), (.nm 4)]) (bAnd (mT (mBin (oIn false) (mBin oIx (mVar 4) (mK (.int 1))) (mVar 1))) (mT (mBin (oIn true) (mBin oIx (mVar 4) (mK (.int 0))) (mVar 1)))) (mVar 3) [3, 4]) mNil))))
theorem has_entering_pipes {P : Program} {w : World} {K : PySem.W.Frag} {mg : Str → Option Value} {base : Heap} (bl : Blt mg) (D : DefT K mg "entering_pipes" st_entering_pipes ["network", "places"] []) :
    Has P w K mg base 1 "entering_pipes" ["network", "places"] [] (fnM 5 (t_entering_pipes)) := by
  have nd := sc_entering_pipes.nd
  refine D.has (k := 0) sc_entering_pipes fun f cdv A outer s H E rm hgd => ?_
  have tk : Takes (cxOf (L2.CX P w) P w K mg base ["network", "places", "pipes", "index", "pipe"] "entering_pipes" (defScope st_entering_pipes) f cdv A outer s H E) (fun c d _ H' => E c d H') := takes_of rfl rfl rfl rfl
  exact (dss_cons (ds_set 2 (de_ix ix_2 s_ix (de_var 0) de_int) nd)
  (dss_one (ds_ret (de_callTy call_tupleM s_tuple bl.tuple bt_tuple (da_cons (de_comp (own := [("index", 3), ("pipe", 4)]) rfl nd (di_enum bl.enumerate (da_cons (de_var 2) da_nil)) (blkOk_by (by rfl)) (fun _ _ _ _ _ => (dt_tp rfl (dts_cons (dt_nm 3 nd) (dts_cons (dt_nm 4 nd) dts_nil)))) (fun _ _ _ _ _ => (dts_one (dw_db (dw_and (db_cmp (op_inM (ru rm 65)) s_in (de_ix ix_2 s_ix (de_var 4) de_int) (de_var 1)) (dw_and1 (db_cmp (op_notInM (ru rm 65)) s_in (de_ix ix_2 s_ix (de_var 4) de_int) (de_var 1))))))) (fun _ _ _ _ _ => (de_var 3))) da_nil)))))
/-! ### leaving_pipes -/
abbrev st_leaving_pipes : Stmt := topS 19
theorem sc_leaving_pipes : FnScope ["network", "places", "pipes", "index", "pipe"] ["network", "places"] (defScope st_leaving_pipes) := ⟨rfl, rfl, rfl, by decide +kernel, rfl, by decide +kernel, by decide +kernel⟩
def t_leaving_pipes : ST := (mSeq (mSet 2 (mBin oIx (mVar 0) (mK (.int 2))))
  (mRet (mFn oTuple (mCons (mComp (mEnum (mCons (mVar 2) mNil)) (.tp [(.nm 3), (.nm 4)]) (bAnd (mT (mBin (oIn false) (mBin oIx (mVar 4) (mK (.int 0))) (mVar 1))) (mT (mBin (oIn true) (mBin oIx (mVar 4) (mK (.int 1))) (mVar 1)))) (mVar 3) [3, 4]) mNil))))
theorem has_leaving_pipes {P : Program} {w : World} {K : PySem.W.Frag} {mg : Str → Option Value} {base : Heap} (bl : Blt mg) (D : DefT K mg "leaving_pipes" st_leaving_pipes ["network", "places"] []) :
    Has P w K mg base 1 "leaving_pipes" ["network", "places"] [] (fnM 5 (t_leaving_pipes)) := by
  have nd := sc_leaving_pipes.nd
  refine D.has (k := 0) sc_leaving_pipes fun f cdv A outer s H E rm hgd => ?_
  have tk : Takes (cxOf (L2.CX P w) P w K mg base ["network", "places", "pipes", "index", "pipe"] "leaving_pipes" (defScope st_leaving_pipes) f cdv A outer s H E) (fun c d _ H' => E c d H') := takes_of rfl rfl rfl rfl
  exact (dss_cons (ds_set 2 (de_ix ix_2 s_ix (de_var 0) de_int) nd)
  (dss_one (ds_ret (de_callTy call_tupleM s_tuple bl.tuple bt_tuple (da_cons (de_comp (own := [("index", 3), ("pipe", 4)]) rfl nd (di_enum bl.enumerate (da_cons (de_var 2) da_nil)) (blkOk_by (by rfl)) (fun _ _ _ _ _ => (dt_tp rfl (dts_cons (dt_nm 3 nd) (dts_cons (dt_nm 4 nd) dts_nil)))) (fun _ _ _ _ _ => (dts_one (dw_db (dw_and (db_cmp (op_inM (ru rm 65)) s_in (de_ix ix_2 s_ix (de_var 4) de_int) (de_var 1)) (dw_and1 (db_cmp (op_notInM (ru rm 65)) s_in (de_ix ix_2 s_ix (de_var 4) de_int) (de_var 1))))))) (fun _ _ _ _ _ => (de_var 3))) da_nil)))))
/-! ### closed_residue -/
abbrev st_closed_residue : Stmt := topS 21
theorem sc_closed_residue : FnScope ["modulus", "pipe"] ["modulus", "pipe"] (defScope st_closed_residue) := ⟨rfl, rfl, rfl, by decide +kernel, rfl, by decide +kernel, by decide +kernel⟩
def t_closed_residue : ST := (mRet (mIf (mT (mBin (oIs false) (mBin oIx (mVar 1) (mK (.int 4))) (mK .non))) (mBin oMod (mBin oIx (mVar 1) (mK (.int 2))) (mVar 0)) (mBin oIx (mVar 1) (mK (.int 4)))))
theorem has_closed_residue {P : Program} {w : World} {K : PySem.W.Frag} {mg : Str → Option Value} {base : Heap} (bl : Blt mg) (D : DefT K mg "closed_residue" st_closed_residue ["modulus", "pipe"] []) :
    Has P w K mg base 1 "closed_residue" ["modulus", "pipe"] [] (fnM 2 (t_closed_residue)) := by
  have nd := sc_closed_residue.nd
  refine D.has (k := 0) sc_closed_residue fun f cdv A outer s H E rm hgd => ?_
  have tk : Takes (cxOf (L2.CX P w) P w K mg base ["modulus", "pipe"] "closed_residue" (defScope st_closed_residue) f cdv A outer s H E) (fun c d _ H' => E c d H') := takes_of rfl rfl rfl rfl
  exact (dss_one (ds_ret (de_if (db_cmp op_isN s_is (de_ix ix_2 s_ix (de_var 1) de_int) de_non) (de_bin op_mod s_oI (de_ix ix_2 s_ix (de_var 1) de_int) (de_var 0)) (de_ix ix_2 s_ix (de_var 1) de_int))))
/-! ### closed_sum -/
abbrev st_closed_sum : Stmt := topS 22
theorem sc_closed_sum : FnScope ["network", "places", "modulus", "pipes", "total", "sign", "indexes", "index"] ["network", "places"] (defScope st_closed_sum) := ⟨rfl, rfl, rfl, by decide +kernel, rfl, by decide +kernel, by decide +kernel⟩
def t_closed_sum_b1 (g_entering_pipes : FT) (g_leaving_pipes : FT) (g_is_open_pipe : FT) (g_closed_residue : FT) : ST := (mIfS (bNot (mT (mCall g_is_open_pipe 1 (mCons (mBin oIx (mVar 3) (mVar 7)) mNil)))) (mAug 4 (oI (fun _ _ => True) (· + ·)) (mBin oMul (mVar 5) (mCall g_closed_residue 2 (mCons (mVar 2) (mCons (mBin oIx (mVar 3) (mVar 7)) mNil))))) mNext)
def t_closed_sum_b2 (g_entering_pipes : FT) (g_leaving_pipes : FT) (g_is_open_pipe : FT) (g_closed_residue : FT) : ST := (mFor (iSeqM (mVar 6)) (.nm 7) (t_closed_sum_b1 g_entering_pipes g_leaving_pipes g_is_open_pipe g_closed_residue))
def t_closed_sum (g_entering_pipes : FT) (g_leaving_pipes : FT) (g_is_open_pipe : FT) (g_closed_residue : FT) : ST := (mSeq (mPar2 2 3 (mCons (mBin oIx (mVar 0) (mK (.int 0))) (mCons (mBin oIx (mVar 0) (mK (.int 2))) mNil)))
  (mSeq (mSet 4 (mK (.int 0)))
  (mSeq (mFor (iSeqM (mTup (mCons (mTup (mCons (mK (.int 1)) (mCons (mCall g_entering_pipes 2 (mCons (mVar 0) (mCons (mVar 1) mNil))) mNil))) (mCons (mTup (mCons (mUn oNeg (mK (.int 1))) (mCons (mCall g_leaving_pipes 2 (mCons (mVar 0) (mCons (mVar 1) mNil))) mNil))) mNil)))) (.tp [(.nm 5), (.nm 6)]) (t_closed_sum_b2 g_entering_pipes g_leaving_pipes g_is_open_pipe g_closed_residue))
  (mRet (mBin oMod (mVar 4) (mVar 2))))))
theorem has_closed_sum {P : Program} {w : World} {K : PySem.W.Frag} {mg : Str → Option Value} {base : Heap} {g_entering_pipes : FT} {g_leaving_pipes : FT} {g_is_open_pipe : FT} {g_closed_residue : FT} (bl : Blt mg) (D : DefT K mg "closed_sum" st_closed_sum ["network", "places"] [])
    (k_entering_pipes : Has P w K mg base 1 "entering_pipes" ["network", "places"] [] g_entering_pipes)
    (k_leaving_pipes : Has P w K mg base 1 "leaving_pipes" ["network", "places"] [] g_leaving_pipes)
    (k_is_open_pipe : Has P w K mg base 1 "is_open_pipe" ["pipe"] [] g_is_open_pipe)
    (k_closed_residue : Has P w K mg base 1 "closed_residue" ["modulus", "pipe"] [] g_closed_residue) :
    Has P w K mg base 2 "closed_sum" ["network", "places"] [] (fnM 8 (t_closed_sum g_entering_pipes g_leaving_pipes g_is_open_pipe g_closed_residue)) := by
  have h_entering_pipes := k_entering_pipes.mono (show _ ≤ 1 by decide)
  have h_leaving_pipes := k_leaving_pipes.mono (show _ ≤ 1 by decide)
  have h_is_open_pipe := k_is_open_pipe.mono (show _ ≤ 1 by decide)
  have h_closed_residue := k_closed_residue.mono (show _ ≤ 1 by decide)
  have nd := sc_closed_sum.nd
  refine D.has (k := 1) sc_closed_sum fun f cdv A outer s H E rm hgd => ?_
  have tk : Takes (cxOf (L2.CX P w) P w K mg base ["network", "places", "modulus", "pipes", "total", "sign", "indexes", "index"] "closed_sum" (defScope st_closed_sum) f cdv A outer s H E) (fun c d _ H' => E c d H') := takes_of rfl rfl rfl rfl
  have ps : PassesOwn (model P w) (cxOf (L2.CX P w) P w K mg base ["network", "places", "modulus", "pipes", "total", "sign", "indexes", "index"] "closed_sum" (defScope st_closed_sum) f cdv A outer s H E).A (cxOf (L2.CX P w) P w K mg base ["network", "places", "modulus", "pipes", "total", "sign", "indexes", "index"] "closed_sum" (defScope st_closed_sum) f cdv A outer s H E).env (cxOf (L2.CX P w) P w K mg base ["network", "places", "modulus", "pipes", "total", "sign", "indexes", "index"] "closed_sum" (defScope st_closed_sum) f cdv A outer s H E).xe := passes_of rfl
  exact (dss_cons (ds_par2 2 3 rfl nd (da_cons (de_ix ix_2 s_ix (de_var 0) de_int) (da_cons (de_ix ix_2 s_ix (de_var 0) de_int) da_nil)))
  (dss_cons (ds_set 4 de_int nd)
  (dss_cons (ds_for ps rfl (di_seq (de_tup (da_cons (de_tup (da_cons de_int (da_cons (de_go h_entering_pipes rm (gdX hgd) tk (da_cons (de_var 0) (da_cons (de_var 1) da_nil))) da_nil))) (da_cons (de_tup (da_cons (de_un un_neg s_neg de_int) (da_cons (de_go h_leaving_pipes rm (gdX hgd) tk (da_cons (de_var 0) (da_cons (de_var 1) da_nil))) da_nil))) da_nil)))) (dt_tp rfl (dts_cons (dt_nm 5 nd) (dts_cons (dt_nm 6 nd) dts_nil))) (dss_one (ds_for ps rfl (di_seq (de_var 6)) (dt_nm 7 nd) (dss_one (ds_if (db_not (db_val (de_go h_is_open_pipe rm (gdX hgd) tk (da_cons (de_ix ix_2 s_ix (de_var 3) (de_var 7)) da_nil)))) (dss_one (ds_aug 4 ip_add s_ip (de_bin op_mulW s_oI (de_var 5) (de_go h_closed_residue rm (gdX hgd) tk (da_cons (de_var 2) (da_cons (de_ix ix_2 s_ix (de_var 3) (de_var 7)) da_nil)))) nd)) dss_nil)))))
  (dss_one (ds_ret (de_bin op_mod s_oI (de_var 4) (de_var 2)))))))
/-! ### group_sums -/
abbrev st_group_sums : Stmt := topS 23
theorem sc_group_sums : FnScope ["network", "group"] ["network"] (defScope st_group_sums) := ⟨rfl, rfl, rfl, by decide +kernel, rfl, by decide +kernel, by decide +kernel⟩
def t_group_sums (g_check_network : FT) (g_groups_of : FT) (g_closed_sum : FT) : ST := (mSeq (mExpr (mCall g_check_network 1 (mCons (mVar 0) mNil)))
  (mRet (mFn oTuple (mCons (mComp (iSeqM (mCall g_groups_of 1 (mCons (mVar 0) mNil))) (.nm 1) bYes (mTup (mCons (mVar 1) (mCons (mCall g_closed_sum 2 (mCons (mVar 0) (mCons (mVar 1) mNil))) mNil))) [1]) mNil))))
theorem has_group_sums {P : Program} {w : World} {K : PySem.W.Frag} {mg : Str → Option Value} {base : Heap} {g_check_network : FT} {g_groups_of : FT} {g_closed_sum : FT} (bl : Blt mg) (D : DefT K mg "group_sums" st_group_sums ["network"] [])
    (k_check_network : Has P w K mg base 4 "check_network" ["value"] [] g_check_network)
    (k_groups_of : Has P w K mg base 2 "groups_of" ["network"] [] g_groups_of)
    (k_closed_sum : Has P w K mg base 2 "closed_sum" ["network", "places"] [] g_closed_sum) :
    Has P w K mg base 5 "group_sums" ["network"] [] (fnM 2 (t_group_sums g_check_network g_groups_of g_closed_sum)) := by
  have h_check_network := k_check_network.mono (show _ ≤ 4 by decide)
  have h_groups_of := k_groups_of.mono (show _ ≤ 4 by decide)
  have h_closed_sum := k_closed_sum.mono (show _ ≤ 4 by decide)
  have nd := sc_group_sums.nd
  refine D.has (k := 4) sc_group_sums fun f cdv A outer s H E rm hgd => ?_
  have tk : Takes (cxOf (L2.CX P w) P w K mg base ["network", "group"] "group_sums" (defScope st_group_sums) f cdv A outer s H E) (fun c d _ H' => E c d H') := takes_of rfl rfl rfl rfl
  exact (dss_cons (ds_expr (de_go h_check_network rm (gdX hgd) tk (da_cons (de_var 0) da_nil)))
  (dss_one (ds_ret (de_callTy call_tupleM s_tuple bl.tuple bt_tuple (da_cons (de_comp (own := [("group", 1)]) rfl nd (di_seq (de_go h_groups_of rm (gdX hgd) tk (da_cons (de_var 0) da_nil))) (blkOk_by (by rfl)) (fun _ _ _ _ _ => (dt_nm 1 nd)) (fun _ _ _ _ _ => dts_yes) (fun _ _ _ _ _ => (de_tup (da_cons (de_var 1) (da_cons (de_go h_closed_sum rm (gdX hgd) tk0 (da_cons (de_var 0) (da_cons (de_var 1) da_nil))) da_nil))))) da_nil)))))
/-! ### far_part -/
abbrev st_far_part : Stmt := topS 24
theorem sc_far_part : FnScope ["network", "pipe", "pipes", "found", "size", "index", "other"] ["network", "pipe"] (defScope st_far_part) := ⟨rfl, rfl, rfl, by decide +kernel, rfl, by decide +kernel, by decide +kernel⟩
def t_far_part_b1 (g_is_open_pipe : FT) : ST := (mIfS (bAnd (mT (mBin (oEq true) (mVar 5) (mVar 1))) (bAnd (mT (mCall g_is_open_pipe 1 (mCons (mVar 6) mNil))) (mT (mBin (oEq true) (mBin (oIn false) (mBin oIx (mVar 6) (mK (.int 0))) (mVar 3)) (mBin (oIn false) (mBin oIx (mVar 6) (mK (.int 1))) (mVar 3)))))) (mExpr (mBM oAppend (mVar 3) (mCons (mIf (mT (mBin (oIn false) (mBin oIx (mVar 6) (mK (.int 0))) (mVar 3))) (mBin oIx (mVar 6) (mK (.int 1))) (mBin oIx (mVar 6) (mK (.int 0)))) mNil))) mNext)
def t_far_part_b2 (g_is_open_pipe : FT) : ST := (mSeq (mSet 4 (mFn oLen (mCons (mVar 3) mNil)))
  (mFor (mEnum (mCons (mVar 2) mNil)) (.tp [(.nm 5), (.nm 6)]) (t_far_part_b1 g_is_open_pipe)))
def t_far_part (g_is_open_pipe : FT) : ST := (mSeq (mSet 2 (mBin oIx (mVar 0) (mK (.int 2))))
  (mSeq (mPar2 3 4 (mCons (mNew (mCons (mBin oIx (mBin oIx (mVar 2) (mVar 1)) (mK (.int 0))) mNil)) (mCons (mK (.int 0)) mNil)))
  (mSeq (mWhile (mT (mBin oLt (mVar 4) (mFn oLen (mCons (mVar 3) mNil)))) (t_far_part_b2 g_is_open_pipe))
  (mRet (mFn oTuple (mCons (mFn oSorted (mCons (mVar 3) mNil)) mNil))))))
theorem has_far_part {P : Program} {w : World} {K : PySem.W.Frag} {mg : Str → Option Value} {base : Heap} {g_is_open_pipe : FT} (bl : Blt mg) (D : DefT K mg "far_part" st_far_part ["network", "pipe"] [])
    (k_is_open_pipe : Has P w K mg base 1 "is_open_pipe" ["pipe"] [] g_is_open_pipe) :
    Has P w K mg base 2 "far_part" ["network", "pipe"] [] (fnM 7 (t_far_part g_is_open_pipe)) := by
  have h_is_open_pipe := k_is_open_pipe.mono (show _ ≤ 1 by decide)
  have nd := sc_far_part.nd
  refine D.has (k := 1) sc_far_part fun f cdv A outer s H E rm hgd => ?_
  have tk : Takes (cxOf (L2.CX P w) P w K mg base ["network", "pipe", "pipes", "found", "size", "index", "other"] "far_part" (defScope st_far_part) f cdv A outer s H E) (fun c d _ H' => E c d H') := takes_of rfl rfl rfl rfl
  have ps : PassesOwn (model P w) (cxOf (L2.CX P w) P w K mg base ["network", "pipe", "pipes", "found", "size", "index", "other"] "far_part" (defScope st_far_part) f cdv A outer s H E).A (cxOf (L2.CX P w) P w K mg base ["network", "pipe", "pipes", "found", "size", "index", "other"] "far_part" (defScope st_far_part) f cdv A outer s H E).env (cxOf (L2.CX P w) P w K mg base ["network", "pipe", "pipes", "found", "size", "index", "other"] "far_part" (defScope st_far_part) f cdv A outer s H E).xe := passes_of rfl
  exact (dss_cons (ds_set 2 (de_ix ix_2 s_ix (de_var 0) de_int) nd)
  (dss_cons (ds_par2 3 4 rfl nd (da_cons (de_new (da_cons (de_ix ix_2 s_ix (de_ix ix_2 s_ix (de_var 2) (de_var 1)) de_int) da_nil)) (da_cons de_int da_nil)))
  (dss_cons (ds_while ps (db_cmp op_lt s_oB (de_var 4) (de_callB call_lenM s_len bl.len bt_len (da_cons (de_var 3) da_nil))) (dss_cons (ds_set 4 (de_callB call_lenM s_len bl.len bt_len (da_cons (de_var 3) da_nil)) nd)
  (dss_one (ds_for ps rfl (di_enum bl.enumerate (da_cons (de_var 2) da_nil)) (dt_tp rfl (dts_cons (dt_nm 5 nd) (dts_cons (dt_nm 6 nd) dts_nil))) (dss_one (ds_if (dw_db (dw_and (db_cmp (op_neM (ru rm 64)) s_eq (de_var 5) (de_var 1)) (dw_and (db_val (de_go h_is_open_pipe rm (gdX hgd) tk (da_cons (de_var 6) da_nil))) (dw_and1 (db_cmp (op_neM (ru rm 64)) s_eq (de_cmp (op_inM (ru rm 65)) s_in (de_ix ix_2 s_ix (de_var 6) de_int) (de_var 3)) (de_cmp (op_inM (ru rm 65)) s_in (de_ix ix_2 s_ix (de_var 6) de_int) (de_var 3))))))) (dss_one (ds_expr (de_bmL PySem.F.slot_list_append PySem.F.type_list_append mt_append s_append (de_var 3) (da_cons (de_if (db_cmp (op_inM (ru rm 65)) s_in (de_ix ix_2 s_ix (de_var 6) de_int) (de_var 3)) (de_ix ix_2 s_ix (de_var 6) de_int) (de_ix ix_2 s_ix (de_var 6) de_int)) da_nil)))) dss_nil))))))
  (dss_one (ds_ret (de_callTy call_tupleM s_tuple bl.tuple bt_tuple (da_cons (de_callB cr_sortedI s_sorted bl.sorted bt_sorted (da_cons (de_var 3) da_nil)) da_nil)))))))
/-! ### residues_of -/
abbrev st_residues_of : Stmt := topS 25
theorem sc_residues_of : FnScope ["network", "group", "found", "index", "pipe"] ["network"] (defScope st_residues_of) := ⟨rfl, rfl, rfl, by decide +kernel, rfl, by decide +kernel, by decide +kernel⟩
def t_residues_of_b1 (g_groups_of : FT) (g_closed_sum : FT) (g_is_open_pipe : FT) (g_far_part : FT) (g_closed_residue : FT) : ST := (mIfS (mT (mBin (oEq true) (mCall g_closed_sum 2 (mCons (mVar 0) (mCons (mVar 1) mNil))) (mK (.int 0)))) mNever mNext)
def t_residues_of_b2 (g_groups_of : FT) (g_closed_sum : FT) (g_is_open_pipe : FT) (g_far_part : FT) (g_closed_residue : FT) : ST := (mIfS (mT (mCall g_is_open_pipe 1 (mCons (mVar 4) mNil))) (mExpr (mBM oAppend (mVar 2) (mCons (mCall g_closed_sum 2 (mCons (mVar 0) (mCons (mCall g_far_part 2 (mCons (mVar 0) (mCons (mVar 3) mNil))) mNil))) mNil))) (mExpr (mBM oAppend (mVar 2) (mCons (mCall g_closed_residue 2 (mCons (mBin oIx (mVar 0) (mK (.int 0))) (mCons (mVar 4) mNil))) mNil))))
def t_residues_of (g_groups_of : FT) (g_closed_sum : FT) (g_is_open_pipe : FT) (g_far_part : FT) (g_closed_residue : FT) : ST := (mSeq (mFor (iSeqM (mCall g_groups_of 1 (mCons (mVar 0) mNil))) (.nm 1) (t_residues_of_b1 g_groups_of g_closed_sum g_is_open_pipe g_far_part g_closed_residue))
  (mSeq (mSet 2 (mNew mNil))
  (mSeq (mFor (mEnum (mCons (mBin oIx (mVar 0) (mK (.int 2))) mNil)) (.tp [(.nm 3), (.nm 4)]) (t_residues_of_b2 g_groups_of g_closed_sum g_is_open_pipe g_far_part g_closed_residue))
  (mRet (mFn oTuple (mCons (mVar 2) mNil))))))
theorem has_residues_of {P : Program} {w : World} {K : PySem.W.Frag} {mg : Str → Option Value} {base : Heap} {g_groups_of : FT} {g_closed_sum : FT} {g_is_open_pipe : FT} {g_far_part : FT} {g_closed_residue : FT} (bl : Blt mg) (D : DefT K mg "residues_of" st_residues_of ["network"] [])
    (k_groups_of : Has P w K mg base 2 "groups_of" ["network"] [] g_groups_of)
    (k_closed_sum : Has P w K mg base 2 "closed_sum" ["network", "places"] [] g_closed_sum)
    (k_is_open_pipe : Has P w K mg base 1 "is_open_pipe" ["pipe"] [] g_is_open_pipe)
    (k_far_part : Has P w K mg base 2 "far_part" ["network", "pipe"] [] g_far_part)
    (k_closed_residue : Has P w K mg base 1 "closed_residue" ["modulus", "pipe"] [] g_closed_residue) :
    Has P w K mg base 3 "residues_of" ["network"] [] (fnM 5 (t_residues_of g_groups_of g_closed_sum g_is_open_pipe g_far_part g_closed_residue)) := by
  have h_groups_of := k_groups_of.mono (show _ ≤ 2 by decide)
  have h_closed_sum := k_closed_sum.mono (show _ ≤ 2 by decide)
  have h_is_open_pipe := k_is_open_pipe.mono (show _ ≤ 2 by decide)
  have h_far_part := k_far_part.mono (show _ ≤ 2 by decide)
  have h_closed_residue := k_closed_residue.mono (show _ ≤ 2 by decide)
  have nd := sc_residues_of.nd
  refine D.has (k := 2) sc_residues_of fun f cdv A outer s H E rm hgd => ?_
  have tk : Takes (cxOf (L2.CX P w) P w K mg base ["network", "group", "found", "index", "pipe"] "residues_of" (defScope st_residues_of) f cdv A outer s H E) (fun c d _ H' => E c d H') := takes_of rfl rfl rfl rfl
  have ps : PassesOwn (model P w) (cxOf (L2.CX P w) P w K mg base ["network", "group", "found", "index", "pipe"] "residues_of" (defScope st_residues_of) f cdv A outer s H E).A (cxOf (L2.CX P w) P w K mg base ["network", "group", "found", "index", "pipe"] "residues_of" (defScope st_residues_of) f cdv A outer s H E).env (cxOf (L2.CX P w) P w K mg base ["network", "group", "found", "index", "pipe"] "residues_of" (defScope st_residues_of) f cdv A outer s H E).xe := passes_of rfl
  exact (dss_cons (ds_for ps rfl (di_seq (de_go h_groups_of rm (gdX hgd) tk (da_cons (de_var 0) da_nil))) (dt_nm 1 nd) (dss_one (ds_if (db_cmp (op_neM (ru rm 64)) s_eq (de_go h_closed_sum rm (gdX hgd) tk (da_cons (de_var 0) (da_cons (de_var 1) da_nil))) de_int) (dss_one ds_never) dss_nil)))
  (dss_cons (ds_set 2 (de_new da_nil) nd)
  (dss_cons (ds_for ps rfl (di_enum bl.enumerate (da_cons (de_ix ix_2 s_ix (de_var 0) de_int) da_nil)) (dt_tp rfl (dts_cons (dt_nm 3 nd) (dts_cons (dt_nm 4 nd) dts_nil))) (dss_one (ds_if (db_val (de_go h_is_open_pipe rm (gdX hgd) tk (da_cons (de_var 4) da_nil))) (dss_one (ds_expr (de_bmL PySem.F.slot_list_append PySem.F.type_list_append mt_append s_append (de_var 2) (da_cons (de_go h_closed_sum rm (gdX hgd) tk (da_cons (de_var 0) (da_cons (de_go h_far_part rm (gdX hgd) tk (da_cons (de_var 0) (da_cons (de_var 3) da_nil))) da_nil))) da_nil)))) (dss_one (ds_expr (de_bmL PySem.F.slot_list_append PySem.F.type_list_append mt_append s_append (de_var 2) (da_cons (de_go h_closed_residue rm (gdX hgd) tk (da_cons (de_ix ix_2 s_ix (de_var 0) de_int) (da_cons (de_var 4) da_nil))) da_nil)))))))
  (dss_one (ds_ret (de_callTy call_tupleM s_tuple bl.tuple bt_tuple (da_cons (de_var 2) da_nil)))))))
/-! ### residues -/
abbrev st_residues : Stmt := topS 26
theorem sc_residues : FnScope ["network"] ["network"] (defScope st_residues) := ⟨rfl, rfl, rfl, by decide +kernel, rfl, by decide +kernel, by decide +kernel⟩
def t_residues (g_check_network : FT) (g_residues_of : FT) : ST := (mSeq (mExpr (mCall g_check_network 1 (mCons (mVar 0) mNil)))
  (mRet (mCall g_residues_of 1 (mCons (mVar 0) mNil))))
theorem has_residues {P : Program} {w : World} {K : PySem.W.Frag} {mg : Str → Option Value} {base : Heap} {g_check_network : FT} {g_residues_of : FT} (bl : Blt mg) (D : DefT K mg "residues" st_residues ["network"] [(["network"], [0])])
    (k_check_network : Has P w K mg base 4 "check_network" ["value"] [] g_check_network)
    (k_residues_of : Has P w K mg base 3 "residues_of" ["network"] [] g_residues_of) :
    Has P w K mg base 5 "residues" ["network"] [(["network"], [0])] (fnM 1 (t_residues g_check_network g_residues_of)) := by
  have h_check_network := k_check_network.mono (show _ ≤ 4 by decide)
  have h_residues_of := k_residues_of.mono (show _ ≤ 4 by decide)
  have nd := sc_residues.nd
  refine D.has (k := 4) sc_residues fun f cdv A outer s H E rm hgd => ?_
  have tk : Takes (cxOf (L2.CX P w) P w K mg base ["network"] "residues" (defScope st_residues) f cdv A outer s H E) (fun c d _ H' => E c d H') := takes_of rfl rfl rfl rfl
  exact (dss_cons (ds_expr (de_go h_check_network rm (gdX hgd) tk (da_cons (de_var 0) da_nil)))
  (dss_one (ds_ret (de_go h_residues_of rm (gdX hgd) tk (da_cons (de_var 0) da_nil)))))
/-! ### _law_mixed -/
abbrev st_law_mixed : Stmt := topS 28
theorem sc_law_mixed : FnScope ["cell", "n", "turned"] ["cell", "n"] (defScope st_law_mixed) := ⟨rfl, rfl, rfl, by decide +kernel, rfl, by decide +kernel, by decide +kernel⟩
def t_law_mixed : ST := (mSeq (mSet 2 (mBin oAdd (mBin oAdd (mBin oMod (mBin oMul (mBin oMul (mVar 0) (mBin oAdd (mK (.int 1)) (mBin oMul (mK (.int 2)) (mVar 1)))) (mK (.int 48271))) (mK (.int 2147483647))) (mBin oMul (mBin oMul (mK (.int 7919)) (mVar 1)) (mVar 1))) (mBin oMul (mK (.int 104729)) (mVar 1))))
  (mRet (mBin oDiv (mBin oMod (mBin oMul (mVar 2) (mK (.int 69621))) (mK (.int 2147483629))) (mK (.int 7)))))
theorem has_law_mixed {P : Program} {w : World} {K : PySem.W.Frag} {mg : Str → Option Value} {base : Heap} (bl : Blt mg) (D : DefT K mg "_law_mixed" st_law_mixed ["cell", "n"] []) :
    Has P w K mg base 1 "_law_mixed" ["cell", "n"] [] (fnM 3 (t_law_mixed)) := by
  have nd := sc_law_mixed.nd
  refine D.has (k := 0) sc_law_mixed fun f cdv A outer s H E rm hgd => ?_
  have tk : Takes (cxOf (L2.CX P w) P w K mg base ["cell", "n", "turned"] "_law_mixed" (defScope st_law_mixed) f cdv A outer s H E) (fun c d _ H' => E c d H') := takes_of rfl rfl rfl rfl
  exact (dss_cons (ds_set 2 (de_bin op_addA s_add (de_bin op_addA s_add (de_bin op_mod s_oI (de_bin op_mulW s_oI (de_bin op_mulW s_oI (de_var 0) (de_bin op_addA s_add de_int (de_bin op_mulW s_oI de_int (de_var 1)))) de_int) de_int) (de_bin op_mulW s_oI (de_bin op_mulW s_oI de_int (de_var 1)) (de_var 1))) (de_bin op_mulW s_oI de_int (de_var 1))) nd)
  (dss_one (ds_ret (de_bin op_fdivW s_oI (de_bin op_mod s_oI (de_bin op_mulW s_oI (de_var 2) de_int) de_int) de_int))))
/-! ### _law_folded -/
abbrev st_law_folded : Stmt := topS 29
theorem sc_law_folded : FnScope ["script", "found", "n", "cell"] ["script"] (defScope st_law_folded) := ⟨rfl, rfl, rfl, by decide +kernel, rfl, by decide +kernel, by decide +kernel⟩
def t_law_folded_b1 : ST := (mPut oPut (mVar 1) (mBin oMod (mVar 2) (mK (.int 64))) (mBin oMod (mBin oAdd (mBin oMul (mBin oIx (mVar 1) (mBin oMod (mVar 2) (mK (.int 64)))) (mK (.int 48271))) (mVar 3)) (mK (.int 2147483647))))
def t_law_folded_b2 : ST := (mPut oPut (mVar 1) (mVar 2) (mBin oMod (mBin oAdd (mBin oIx (mVar 1) (mVar 2)) (mBin oMul (mBin oIx (mVar 1) (mBin oSub (mVar 2) (mK (.int 1)))) (mK (.int 16807)))) (mK (.int 2147483647))))
def t_law_folded : ST := (mSeq (mSet 1 (mCompN (iRngM1 (mCons (mK (.int 64)) mNil)) (.nm 2) bYes (mBin oAdd (mK (.int 17)) (mVar 2)) [2]))
  (mSeq (mFor (mEnum (mCons (mVar 0) mNil)) (.tp [(.nm 2), (.nm 3)]) (t_law_folded_b1))
  (mSeq (mFor (iRngM2 (mCons (mK (.int 1)) (mCons (mK (.int 64)) mNil))) (.nm 2) (t_law_folded_b2))
  (mRet (mVar 1)))))
theorem has_law_folded {P : Program} {w : World} {K : PySem.W.Frag} {mg : Str → Option Value} {base : Heap} (bl : Blt mg) (D : DefT K mg "_law_folded" st_law_folded ["script"] []) :
    Has P w K mg base 1 "_law_folded" ["script"] [] (fnM 4 (t_law_folded)) := by
  have nd := sc_law_folded.nd
  refine D.has (k := 0) sc_law_folded fun f cdv A outer s H E rm hgd => ?_
  have tk : Takes (cxOf (L2.CX P w) P w K mg base ["script", "found", "n", "cell"] "_law_folded" (defScope st_law_folded) f cdv A outer s H E) (fun c d _ H' => E c d H') := takes_of rfl rfl rfl rfl
  have ps : PassesOwn (model P w) (cxOf (L2.CX P w) P w K mg base ["script", "found", "n", "cell"] "_law_folded" (defScope st_law_folded) f cdv A outer s H E).A (cxOf (L2.CX P w) P w K mg base ["script", "found", "n", "cell"] "_law_folded" (defScope st_law_folded) f cdv A outer s H E).env (cxOf (L2.CX P w) P w K mg base ["script", "found", "n", "cell"] "_law_folded" (defScope st_law_folded) f cdv A outer s H E).xe := passes_of rfl
  exact (dss_cons (ds_setLcN (own := [("n", 2)]) 1 rfl nd rfl rfl rfl (di_range1 bl.range (da_cons de_int da_nil)) (blkOk_by (by rfl)) (fun _ _ _ _ _ => (dt_nm 2 nd)) (fun _ _ _ _ _ => dts_yes) (fun _ _ _ _ _ => (de_bin op_addA s_add de_int (de_var 2))))
  (dss_cons (ds_for ps rfl (di_enum bl.enumerate (da_cons (de_var 0) da_nil)) (dt_tp rfl (dts_cons (dt_nm 2 nd) (dts_cons (dt_nm 3 nd) dts_nil))) (dss_one (ds_put set_list s_put (de_var 1) (de_bin op_mod s_oI (de_var 2) de_int) (de_bin op_mod s_oI (de_bin op_addA s_add (de_bin op_mulW s_oI (de_ix ix_2 s_ix (de_var 1) (de_bin op_mod s_oI (de_var 2) de_int)) de_int) (de_var 3)) de_int))))
  (dss_cons (ds_for ps rfl (di_range2 bl.range (da_cons de_int (da_cons de_int da_nil))) (dt_nm 2 nd) (dss_one (ds_put set_list s_put (de_var 1) (de_var 2) (de_bin op_mod s_oI (de_bin op_addA s_add (de_ix ix_2 s_ix (de_var 1) (de_var 2)) (de_bin op_mulW s_oI (de_ix ix_2 s_ix (de_var 1) (de_bin op_subI s_oI (de_var 2) de_int)) de_int)) de_int))))
  (dss_one (ds_ret (de_var 1))))))
/-! ### _law_draw -/
abbrev st_law_draw : Stmt := topS 30
theorem sc_law_draw : FnScope ["m", "top", "n", "at", "cell"] ["m", "top"] (defScope st_law_draw) := ⟨rfl, rfl, rfl, by decide +kernel, rfl, by decide +kernel, by decide +kernel⟩
def t_law_draw (g_law_mixed : FT) : ST := (mSeq (mSet 2 (mBin oDGet (mVar 0) (mK (.str "spot"))))
  (mSeq (mPut oDPut (mVar 0) (mK (.str "spot")) (mBin oAdd (mVar 2) (mK (.int 1))))
  (mSeq (mIfS (mT (mBin (oEq true) (mBin oDGet (mVar 0) (mK (.str "great"))) (mLst mNil))) (mSeq (mSet 3 (mBin oMod (mVar 2) (mFn oLen (mCons (mBin oDGet (mVar 0) (mK (.str "great"))) mNil))))
  (mSeq (mSet 4 (mBin oIx (mBin oDGet (mVar 0) (mK (.str "great"))) (mVar 3)))
  (mIfS (mT (mBin oGt (mVar 4) (mK (.int 0)))) (mSeq (mPut oPut (mBin oDGet (mVar 0) (mK (.str "great"))) (mVar 3) (mBin oDiv (mVar 4) (mVar 1)))
  (mRet (mBin oMod (mVar 4) (mVar 1)))) mNext))) mNext)
  (mRet (mBin oMod (mCall g_law_mixed 2 (mCons (mCall g_law_mixed 2 (mCons (mBin oAdd (mBin oIx (mBin oDGet (mVar 0) (mK (.str "cells"))) (mBin oMod (mVar 2) (mK (.int 64)))) (mBin oMul (mK (.int 31)) (mBin oDiv (mVar 2) (mK (.int 64))))) (mCons (mVar 2) mNil))) (mCons (mBin oAdd (mVar 2) (mK (.int 7))) mNil))) (mVar 1))))))
theorem has_law_draw {P : Program} {w : World} {K : PySem.W.Frag} {mg : Str → Option Value} {base : Heap} {g_law_mixed : FT} (bl : Blt mg) (D : DefT K mg "_law_draw" st_law_draw ["m", "top"] [])
    (k_law_mixed : Has P w K mg base 1 "_law_mixed" ["cell", "n"] [] g_law_mixed) :
    Has P w K mg base 2 "_law_draw" ["m", "top"] [] (fnM 5 (t_law_draw g_law_mixed)) := by
  have h_law_mixed := k_law_mixed.mono (show _ ≤ 1 by decide)
  have nd := sc_law_draw.nd
  refine D.has (k := 1) sc_law_draw fun f cdv A outer s H E rm hgd => ?_
  have tk : Takes (cxOf (L2.CX P w) P w K mg base ["m", "top", "n", "at", "cell"] "_law_draw" (defScope st_law_draw) f cdv A outer s H E) (fun c d _ H' => E c d H') := takes_of rfl rfl rfl rfl
  exact (dss_cons (ds_set 2 (de_dget (ru rm 1) (de_var 0) de_str) nd)
  (dss_cons (ds_dput (ru rm 1) (de_var 0) de_str (de_bin op_addA s_add (de_var 2) de_int))
  (dss_cons (ds_if (db_cmp (op_neM (ru rm 64)) s_eq (de_dget (ru rm 1) (de_var 0) de_str) (de_lst da_nil)) (dss_cons (ds_set 3 (de_bin op_mod s_oI (de_var 2) (de_callB call_lenM s_len bl.len bt_len (da_cons (de_dget (ru rm 1) (de_var 0) de_str) da_nil))) nd)
  (dss_cons (ds_set 4 (de_ix ix_2 s_ix (de_dget (ru rm 1) (de_var 0) de_str) (de_var 3)) nd)
  (dss_one (ds_if (db_cmp op_gt s_oB (de_var 4) de_int) (dss_cons (ds_put set_list s_put (de_dget (ru rm 1) (de_var 0) de_str) (de_var 3) (de_bin op_fdivW s_oI (de_var 4) (de_var 1)))
  (dss_one (ds_ret (de_bin op_mod s_oI (de_var 4) (de_var 1))))) dss_nil)))) dss_nil)
  (dss_one (ds_ret (de_bin op_mod s_oI (de_go h_law_mixed rm (gdX hgd) tk (da_cons (de_go h_law_mixed rm (gdX hgd) tk (da_cons (de_bin op_addA s_add (de_ix ix_2 s_ix (de_dget (ru rm 1) (de_var 0) de_str) (de_bin op_mod s_oI (de_var 2) de_int)) (de_bin op_mulW s_oI de_int (de_bin op_fdivW s_oI (de_var 2) de_int))) (da_cons (de_var 2) da_nil))) (da_cons (de_bin op_addA s_add (de_var 2) de_int) da_nil))) (de_var 1)))))))
/-! ### _law_begun -/
abbrev st_law_begun : Stmt := topS 31
theorem sc_law_begun : FnScope ["script", "m", "cell"] ["script"] (defScope st_law_begun) := ⟨rfl, rfl, rfl, by decide +kernel, rfl, by decide +kernel, by decide +kernel⟩
def t_law_begun (g_law_folded : FT) : ST := (mSeq (mSet 1 (mDisp ["cells", "great", "spot"] (mCons (mCall g_law_folded 1 (mCons (mVar 0) mNil)) (mCons (mLst mNil) (mCons (mK (.int 0)) mNil)))))
  (mSeq (mPut oDPut (mVar 1) (mK (.str "great")) (mCompN (iSeqM (mVar 0)) (.nm 2) bYes (mIf (mT (mBin oGe (mVar 2) (mBin oPow (mK (.int 10)) (mK (.int 18))))) (mVar 2) (mK (.int 0))) [2]))
  (mRet (mVar 1))))
theorem has_law_begun {P : Program} {w : World} {K : PySem.W.Frag} {mg : Str → Option Value} {base : Heap} {g_law_folded : FT} (bl : Blt mg) (D : DefT K mg "_law_begun" st_law_begun ["script"] [])
    (k_law_folded : Has P w K mg base 1 "_law_folded" ["script"] [] g_law_folded) :
    Has P w K mg base 2 "_law_begun" ["script"] [] (fnM 3 (t_law_begun g_law_folded)) := by
  have h_law_folded := k_law_folded.mono (show _ ≤ 1 by decide)
  have nd := sc_law_begun.nd
  refine D.has (k := 1) sc_law_begun fun f cdv A outer s H E rm hgd => ?_
  have tk : Takes (cxOf (L2.CX P w) P w K mg base ["script", "m", "cell"] "_law_begun" (defScope st_law_begun) f cdv A outer s H E) (fun c d _ H' => E c d H') := takes_of rfl rfl rfl rfl
  exact (dss_cons (ds_set 1 (de_disp (dpr_cons (de_go h_law_folded rm (gdX hgd) tk (da_cons (de_var 0) da_nil)) (dpr_cons (de_lst da_nil) (dpr_cons de_int dpr_nil)))) nd)
  (dss_cons (ds_dput (ru rm 1) (de_var 1) de_str (de_compN (own := [("cell", 2)]) rfl nd (di_seq (de_var 0)) (blkOk_by (by rfl)) (fun _ _ _ _ _ => (dt_nm 2 nd)) (fun _ _ _ _ _ => dts_yes) (fun _ _ _ _ _ => (de_if (db_cmp op_ge s_oB (de_var 2) (de_bin op_pow s_oI de_int de_int)) (de_var 2) de_int))))
  (dss_one (ds_ret (de_var 1)))))
/-! ### _law_mixed_up -/
abbrev st_law_mixed_up : Stmt := topS 32
theorem sc_law_mixed_up : FnScope ["m", "things", "stock", "found", "n"] ["m", "things"] (defScope st_law_mixed_up) := ⟨rfl, rfl, rfl, by decide +kernel, rfl, by decide +kernel, by decide +kernel⟩
def t_law_mixed_up_b1 (g_law_draw : FT) : ST := (mExpr (mBM oAppend (mVar 3) (mCons (mBM oPop (mVar 2) (mCons (mCall g_law_draw 2 (mCons (mVar 0) (mCons (mFn oLen (mCons (mVar 2) mNil)) mNil))) mNil)) mNil)))
def t_law_mixed_up (g_law_draw : FT) : ST := (mSeq (mPar2 2 3 (mCons (mFn oListN (mCons (mVar 1) mNil)) (mCons (mNew mNil) mNil)))
  (mSeq (mFor (iRngM1 (mCons (mFn oLen (mCons (mVar 2) mNil)) mNil)) (.nm 4) (t_law_mixed_up_b1 g_law_draw))
  (mRet (mVar 3))))
theorem has_law_mixed_up {P : Program} {w : World} {K : PySem.W.Frag} {mg : Str → Option Value} {base : Heap} {g_law_draw : FT} (bl : Blt mg) (D : DefT K mg "_law_mixed_up" st_law_mixed_up ["m", "things"] [])
    (k_law_draw : Has P w K mg base 2 "_law_draw" ["m", "top"] [] g_law_draw) :
    Has P w K mg base 3 "_law_mixed_up" ["m", "things"] [] (fnM 5 (t_law_mixed_up g_law_draw)) := by
  have h_law_draw := k_law_draw.mono (show _ ≤ 2 by decide)
  have nd := sc_law_mixed_up.nd
  refine D.has (k := 2) sc_law_mixed_up fun f cdv A outer s H E rm hgd => ?_
  have tk : Takes (cxOf (L2.CX P w) P w K mg base ["m", "things", "stock", "found", "n"] "_law_mixed_up" (defScope st_law_mixed_up) f cdv A outer s H E) (fun c d _ H' => E c d H') := takes_of rfl rfl rfl rfl
  have ps : PassesOwn (model P w) (cxOf (L2.CX P w) P w K mg base ["m", "things", "stock", "found", "n"] "_law_mixed_up" (defScope st_law_mixed_up) f cdv A outer s H E).A (cxOf (L2.CX P w) P w K mg base ["m", "things", "stock", "found", "n"] "_law_mixed_up" (defScope st_law_mixed_up) f cdv A outer s H E).env (cxOf (L2.CX P w) P w K mg base ["m", "things", "stock", "found", "n"] "_law_mixed_up" (defScope st_law_mixed_up) f cdv A outer s H E).xe := passes_of rfl
  exact (dss_cons (ds_par2 2 3 rfl nd (da_cons (de_callTy call_listM s_listN bl.list bt_list (da_cons (de_var 1) da_nil)) (da_cons (de_new da_nil) da_nil)))
  (dss_cons (ds_for ps rfl (di_range1 bl.range (da_cons (de_callB call_lenM s_len bl.len bt_len (da_cons (de_var 2) da_nil)) da_nil)) (dt_nm 4 nd) (dss_one (ds_expr (de_bmL PySem.F.slot_list_append PySem.F.type_list_append mt_append s_append (de_var 3) (da_cons (de_bmL PySem.F.slot_list_pop PySem.F.type_list_pop mt_pop2 s_pop (de_var 2) (da_cons (de_go h_law_draw rm (gdX hgd) tk (da_cons (de_var 0) (da_cons (de_callB call_lenM s_len bl.len bt_len (da_cons (de_var 2) da_nil)) da_nil))) da_nil)) da_nil)))))
  (dss_one (ds_ret (de_var 3)))))
/-! ### _law_base -/
abbrev st_law_base : Stmt := topS 33
theorem sc_law_base : FnScope ["m"] ["m"] (defScope st_law_base) := ⟨rfl, rfl, rfl, by decide +kernel, rfl, by decide +kernel, by decide +kernel⟩
def t_law_base (g_law_draw : FT) : ST := (mRet (mBin oIx (mLst (mCons (mK (.int 2)) (mCons (mK (.int 3)) (mCons (mK (.int 5)) (mCons (mK (.int 10)) (mCons (mK (.int 10)) (mCons (mK (.int 97)) (mCons (mK (.int 1000)) (mCons (mBin oPow (mK (.int 10)) (mK (.int 6))) mNil))))))))) (mCall g_law_draw 2 (mCons (mVar 0) (mCons (mK (.int 8)) mNil)))))
theorem has_law_base {P : Program} {w : World} {K : PySem.W.Frag} {mg : Str → Option Value} {base : Heap} {g_law_draw : FT} (bl : Blt mg) (D : DefT K mg "_law_base" st_law_base ["m"] [])
    (k_law_draw : Has P w K mg base 2 "_law_draw" ["m", "top"] [] g_law_draw) :
    Has P w K mg base 3 "_law_base" ["m"] [] (fnM 1 (t_law_base g_law_draw)) := by
  have h_law_draw := k_law_draw.mono (show _ ≤ 2 by decide)
  have nd := sc_law_base.nd
  refine D.has (k := 2) sc_law_base fun f cdv A outer s H E rm hgd => ?_
  have tk : Takes (cxOf (L2.CX P w) P w K mg base ["m"] "_law_base" (defScope st_law_base) f cdv A outer s H E) (fun c d _ H' => E c d H') := takes_of rfl rfl rfl rfl
  exact (dss_one (ds_ret (de_ix ix_2 s_ix (de_lst (da_cons de_int (da_cons de_int (da_cons de_int (da_cons de_int (da_cons de_int (da_cons de_int (da_cons de_int (da_cons (de_bin op_pow s_oI de_int de_int) da_nil))))))))) (de_go h_law_draw rm (gdX hgd) tk (da_cons (de_var 0) (da_cons de_int da_nil))))))
/-! ### _law_amount -/
abbrev st_law_amount : Stmt := topS 34
theorem sc_law_amount : FnScope ["m", "base", "some"] ["m", "base"] (defScope st_law_amount) := ⟨rfl, rfl, rfl, by decide +kernel, rfl, by decide +kernel, by decide +kernel⟩
def t_law_amount (g_law_draw : FT) : ST := (mSeq (mSet 2 (mLst (mCons (mK (.int 0)) (mCons (mK (.int 1)) (mCons (mBin oSub (mVar 1) (mK (.int 1))) (mCons (mVar 1) (mCons (mBin oAdd (mVar 1) (mK (.int 1))) (mCons (mCall g_law_draw 2 (mCons (mVar 0) (mCons (mBin oMul (mK (.int 2)) (mVar 1)) mNil))) (mCons (mCall g_law_draw 2 (mCons (mVar 0) (mCons (mBin oMul (mK (.int 9)) (mVar 1)) mNil))) (mCons (mCall g_law_draw 2 (mCons (mVar 0) (mCons (mBin oPow (mK (.int 10)) (mK (.int 6))) mNil))) mNil))))))))))
  (mRet (mBin oIx (mVar 2) (mCall g_law_draw 2 (mCons (mVar 0) (mCons (mK (.int 8)) mNil))))))
theorem has_law_amount {P : Program} {w : World} {K : PySem.W.Frag} {mg : Str → Option Value} {base : Heap} {g_law_draw : FT} (bl : Blt mg) (D : DefT K mg "_law_amount" st_law_amount ["m", "base"] [])
    (k_law_draw : Has P w K mg base 2 "_law_draw" ["m", "top"] [] g_law_draw) :
    Has P w K mg base 3 "_law_amount" ["m", "base"] [] (fnM 3 (t_law_amount g_law_draw)) := by
  have h_law_draw := k_law_draw.mono (show _ ≤ 2 by decide)
  have nd := sc_law_amount.nd
  refine D.has (k := 2) sc_law_amount fun f cdv A outer s H E rm hgd => ?_
  have tk : Takes (cxOf (L2.CX P w) P w K mg base ["m", "base", "some"] "_law_amount" (defScope st_law_amount) f cdv A outer s H E) (fun c d _ H' => E c d H') := takes_of rfl rfl rfl rfl
  exact (dss_cons (ds_set 2 (de_lst (da_cons de_int (da_cons de_int (da_cons (de_bin op_subI s_oI (de_var 1) de_int) (da_cons (de_var 1) (da_cons (de_bin op_addA s_add (de_var 1) de_int) (da_cons (de_go h_law_draw rm (gdX hgd) tk (da_cons (de_var 0) (da_cons (de_bin op_mulW s_oI de_int (de_var 1)) da_nil))) (da_cons (de_go h_law_draw rm (gdX hgd) tk (da_cons (de_var 0) (da_cons (de_bin op_mulW s_oI de_int (de_var 1)) da_nil))) (da_cons (de_go h_law_draw rm (gdX hgd) tk (da_cons (de_var 0) (da_cons (de_bin op_pow s_oI de_int de_int) da_nil))) da_nil))))))))) nd)
  (dss_one (ds_ret (de_ix ix_2 s_ix (de_var 2) (de_go h_law_draw rm (gdX hgd) tk (da_cons (de_var 0) (da_cons de_int da_nil)))))))
/-! ### _law_tubes -/
abbrev st_law_tubes : Stmt := topS 35
theorem sc_law_tubes : FnScope ["m", "many", "base", "rings", "more", "found", "n", "road", "amount", "source", "target", "same", "tube", "pair"] ["m", "many", "base", "rings", "more"] (defScope st_law_tubes) := ⟨rfl, rfl, rfl, by decide +kernel, rfl, by decide +kernel, by decide +kernel⟩
def t_law_tubes_b1 (g_law_mixed_up : FT) (g_law_draw : FT) (g_law_amount : FT) : ST := (mSeq (mSet 11 (mComp (iSeqM (mVar 5)) (.nm 12) (mT (mBin (oEq false) (mSl (mVar 12) pNo (pAt (mK (.int 2)))) (mLst (mCons (mVar 9) (mCons (mVar 10) mNil))))) (mVar 12) [12]))
  (mIfS (bAnd (mT (mBin (oEq true) (mVar 11) (mLst mNil))) (mT (mBin oGt (mCall g_law_draw 2 (mCons (mVar 0) (mCons (mK (.int 3)) mNil))) (mK (.int 0))))) (mPut oPut (mBin oIx (mVar 11) (mK (.int 0))) (mK (.int 2)) (mBin oAdd (mBin oIx (mBin oIx (mVar 11) (mK (.int 0))) (mK (.int 2))) (mVar 8))) (mExpr (mBM oAppend (mVar 5) (mCons (mNew (mCons (mVar 9) (mCons (mVar 10) (mCons (mVar 8) mNil)))) mNil)))))
def t_law_tubes_b2 (g_law_mixed_up : FT) (g_law_draw : FT) (g_law_amount : FT) : ST := (mSeq (mSet 7 (mSl (mCall g_law_mixed_up 2 (mCons (mVar 0) (mCons (mListRg (mRg1 (mVar 1))) mNil))) pNo (pAt (mBin oAdd (mK (.int 2)) (mCall g_law_draw 2 (mCons (mVar 0) (mCons (mFn oMin (mCons (mK (.int 3)) (mCons (mBin oSub (mVar 1) (mK (.int 1))) mNil))) mNil)))))))
  (mSeq (mSet 8 (mCall g_law_amount 2 (mCons (mVar 0) (mCons (mVar 2) mNil))))
  (mFor (mZip (mCons (mVar 7) (mCons (mBin oAdd (mSl (mVar 7) (pAt (mK (.int 1))) pNo) (mSl (mVar 7) pNo (pAt (mK (.int 1))))) mNil))) (.tp [(.nm 9), (.nm 10)]) (t_law_tubes_b1 g_law_mixed_up g_law_draw g_law_amount))))
def t_law_tubes_b3 (g_law_mixed_up : FT) (g_law_draw : FT) (g_law_amount : FT) : ST := (mSeq (mSet 13 (mSl (mCall g_law_mixed_up 2 (mCons (mVar 0) (mCons (mListRg (mRg1 (mVar 1))) mNil))) pNo (pAt (mK (.int 2)))))
  (mExpr (mBM oAppend (mVar 5) (mCons (mBin oAdd (mVar 13) (mLst (mCons (mK (.int 0)) mNil))) mNil))))
def t_law_tubes (g_law_mixed_up : FT) (g_law_draw : FT) (g_law_amount : FT) : ST := (mSeq (mSet 5 (mNew mNil))
  (mSeq (mFor (iRngM1 (mCons (mIf (mT (mBin oGt (mVar 1) (mK (.int 1)))) (mVar 3) (mK (.int 0))) mNil)) (.nm 6) (t_law_tubes_b2 g_law_mixed_up g_law_draw g_law_amount))
  (mSeq (mFor (iRngM1 (mCons (mIf (mT (mBin oGt (mVar 1) (mK (.int 1)))) (mVar 4) (mK (.int 0))) mNil)) (.nm 6) (t_law_tubes_b3 g_law_mixed_up g_law_draw g_law_amount))
  (mRet (mCall g_law_mixed_up 2 (mCons (mVar 0) (mCons (mVar 5) mNil)))))))
theorem has_law_tubes {P : Program} {w : World} {K : PySem.W.Frag} {mg : Str → Option Value} {base : Heap} {g_law_mixed_up : FT} {g_law_draw : FT} {g_law_amount : FT} (bl : Blt mg) (D : DefT K mg "_law_tubes" st_law_tubes ["m", "many", "base", "rings", "more"] [])
    (k_law_mixed_up : Has P w K mg base 3 "_law_mixed_up" ["m", "things"] [] g_law_mixed_up)
    (k_law_draw : Has P w K mg base 2 "_law_draw" ["m", "top"] [] g_law_draw)
    (k_law_amount : Has P w K mg base 3 "_law_amount" ["m", "base"] [] g_law_amount) :
    Has P w K mg base 4 "_law_tubes" ["m", "many", "base", "rings", "more"] [] (fnM 14 (t_law_tubes g_law_mixed_up g_law_draw g_law_amount)) := by
  have h_law_mixed_up := k_law_mixed_up.mono (show _ ≤ 3 by decide)
  have h_law_draw := k_law_draw.mono (show _ ≤ 3 by decide)
  have h_law_amount := k_law_amount.mono (show _ ≤ 3 by decide)
  have nd := sc_law_tubes.nd
  refine D.has (k := 3) sc_law_tubes fun f cdv A outer s H E rm hgd => ?_
  have tk : Takes (cxOf (L2.CX P w) P w K mg base ["m", "many", "base", "rings", "more", "found", "n", "road", "amount", "source", "target", "same", "tube", "pair"] "_law_tubes" (defScope st_law_tubes) f cdv A outer s H E) (fun c d _ H' => E c d H') := takes_of rfl rfl rfl rfl
  have ps : PassesOwn (model P w) (cxOf (L2.CX P w) P w K mg base ["m", "many", "base", "rings", "more", "found", "n", "road", "amount", "source", "target", "same", "tube", "pair"] "_law_tubes" (defScope st_law_tubes) f cdv A outer s H E).A (cxOf (L2.CX P w) P w K mg base ["m", "many", "base", "rings", "more", "found", "n", "road", "amount", "source", "target", "same", "tube", "pair"] "_law_tubes" (defScope st_law_tubes) f cdv A outer s H E).env (cxOf (L2.CX P w) P w K mg base ["m", "many", "base", "rings", "more", "found", "n", "road", "amount", "source", "target", "same", "tube", "pair"] "_law_tubes" (defScope st_law_tubes) f cdv A outer s H E).xe := passes_of rfl
  exact (dss_cons (ds_set 5 (de_new da_nil) nd)
  (dss_cons (ds_for ps rfl (di_range1 bl.range (da_cons (de_if (db_cmp op_gt s_oB (de_var 1) de_int) (de_var 3) de_int) da_nil)) (dt_nm 6 nd) (dss_cons (ds_set 7 (de_slice (de_go h_law_mixed_up rm (gdX hgd) tk (da_cons (de_var 0) (da_cons (de_listRg rfl bl.list (dr_1 bl.range (de_var 1))) da_nil))) dp_no (dp_at (de_bin op_addA s_add de_int (de_go h_law_draw rm (gdX hgd) tk (da_cons (de_var 0) (da_cons (de_callB (call_minM rfl) s_min bl.min bt_min (da_cons de_int (da_cons (de_bin op_subI s_oI (de_var 1) de_int) da_nil))) da_nil)))))) nd)
  (dss_cons (ds_set 8 (de_go h_law_amount rm (gdX hgd) tk (da_cons (de_var 0) (da_cons (de_var 2) da_nil))) nd)
  (dss_one (ds_for ps rfl (di_zip bl.zip (da_cons (de_var 7) (da_cons (de_bin op_addA s_add (de_slice (de_var 7) (dp_at de_int) dp_no) (de_slice (de_var 7) dp_no (dp_at de_int))) da_nil))) (dt_tp rfl (dts_cons (dt_nm 9 nd) (dts_cons (dt_nm 10 nd) dts_nil))) (dss_cons (ds_setLc (own := [("tube", 12)]) 11 rfl nd rfl rfl rfl (di_seq (de_var 5)) (blkOk_by (by rfl)) (fun _ _ _ _ _ => (dt_nm 12 nd)) (fun _ _ _ _ _ => (dts_one (db_cmp (op_eqM (ru rm 64)) s_eq (de_slice (de_var 12) dp_no (dp_at de_int)) (de_lst (da_cons (de_var 9) (da_cons (de_var 10) da_nil)))))) (fun _ _ _ _ _ => (de_var 12)))
  (dss_one (ds_if (dw_db (dw_and (db_cmp (op_neM (ru rm 64)) s_eq (de_var 11) (de_lst da_nil)) (dw_and1 (db_cmp op_gt s_oB (de_go h_law_draw rm (gdX hgd) tk (da_cons (de_var 0) (da_cons de_int da_nil))) de_int)))) (dss_one (ds_put set_list s_put (de_ix ix_2 s_ix (de_var 11) de_int) de_int (de_bin op_addA s_add (de_ix ix_2 s_ix (de_ix ix_2 s_ix (de_var 11) de_int) de_int) (de_var 8)))) (dss_one (ds_expr (de_bmL PySem.F.slot_list_append PySem.F.type_list_append mt_append s_append (de_var 5) (da_cons (de_new (da_cons (de_var 9) (da_cons (de_var 10) (da_cons (de_var 8) da_nil)))) da_nil))))))))))))
  (dss_cons (ds_for ps rfl (di_range1 bl.range (da_cons (de_if (db_cmp op_gt s_oB (de_var 1) de_int) (de_var 4) de_int) da_nil)) (dt_nm 6 nd) (dss_cons (ds_set 13 (de_slice (de_go h_law_mixed_up rm (gdX hgd) tk (da_cons (de_var 0) (da_cons (de_listRg rfl bl.list (dr_1 bl.range (de_var 1))) da_nil))) dp_no (dp_at de_int)) nd)
  (dss_one (ds_expr (de_bmL PySem.F.slot_list_append PySem.F.type_list_append mt_append s_append (de_var 5) (da_cons (de_bin op_addA s_add (de_var 13) (de_lst (da_cons de_int da_nil))) da_nil))))))
  (dss_one (ds_ret (de_go h_law_mixed_up rm (gdX hgd) tk (da_cons (de_var 0) (da_cons (de_var 5) da_nil))))))))
/-! ### _law_root -/
abbrev st_law_root : Stmt := topS 36
theorem sc_law_root : FnScope ["trees", "at", "n"] ["trees", "at"] (defScope st_law_root) := ⟨rfl, rfl, rfl, by decide +kernel, rfl, by decide +kernel, by decide +kernel⟩
def t_law_root_b1 : ST := (mSet 1 (mBin oIx (mVar 0) (mVar 1)))
def t_law_root : ST := (mSeq (mFor (iRngM1 (mCons (mFn oLen (mCons (mVar 0) mNil)) mNil)) (.nm 2) (t_law_root_b1))
  (mRet (mVar 1)))
theorem has_law_root {P : Program} {w : World} {K : PySem.W.Frag} {mg : Str → Option Value} {base : Heap} (bl : Blt mg) (D : DefT K mg "_law_root" st_law_root ["trees", "at"] []) :
    Has P w K mg base 1 "_law_root" ["trees", "at"] [] (fnM 3 (t_law_root)) := by
  have nd := sc_law_root.nd
  refine D.has (k := 0) sc_law_root fun f cdv A outer s H E rm hgd => ?_
  have tk : Takes (cxOf (L2.CX P w) P w K mg base ["trees", "at", "n"] "_law_root" (defScope st_law_root) f cdv A outer s H E) (fun c d _ H' => E c d H') := takes_of rfl rfl rfl rfl
  have ps : PassesOwn (model P w) (cxOf (L2.CX P w) P w K mg base ["trees", "at", "n"] "_law_root" (defScope st_law_root) f cdv A outer s H E).A (cxOf (L2.CX P w) P w K mg base ["trees", "at", "n"] "_law_root" (defScope st_law_root) f cdv A outer s H E).env (cxOf (L2.CX P w) P w K mg base ["trees", "at", "n"] "_law_root" (defScope st_law_root) f cdv A outer s H E).xe := passes_of rfl
  exact (dss_cons (ds_for ps rfl (di_range1 bl.range (da_cons (de_callB call_lenM s_len bl.len bt_len (da_cons (de_var 0) da_nil)) da_nil)) (dt_nm 2 nd) (dss_one (ds_set 1 (de_ix ix_2 s_ix (de_var 0) (de_var 1)) nd)))
  (dss_one (ds_ret (de_var 1))))
/-! ### _law_net -/
abbrev st_law_net : Stmt := topS 37
theorem sc_law_net : FnScope ["m", "many", "rings", "more", "base", "trees", "tubes", "counts", "source", "target", "count", "low", "high", "meter", "near", "far", "way"] ["m", "many", "rings", "more"] (defScope st_law_net) := ⟨rfl, rfl, rfl, by decide +kernel, rfl, by decide +kernel, by decide +kernel⟩
def t_law_net_b1 (g_law_base : FT) (g_law_tubes : FT) (g_law_amount : FT) (g_law_root : FT) (g_law_draw : FT) : ST := (mSeq (mPar2 11 12 (mCons (mFn oMax (mCons (mK (.int 0)) (mCons (mBin oSub (mVar 10) (mCall g_law_amount 2 (mCons (mVar 0) (mCons (mVar 4) mNil)))) mNil))) (mCons (mBin oAdd (mVar 10) (mCall g_law_amount 2 (mCons (mVar 0) (mCons (mVar 4) mNil)))) mNil)))
  (mSeq (mSet 13 (mBin oMod (mVar 10) (mVar 4)))
  (mSeq (mPar2 14 15 (mCons (mCall g_law_root 2 (mCons (mVar 5) (mCons (mVar 8) mNil))) (mCons (mCall g_law_root 2 (mCons (mVar 5) (mCons (mVar 9) mNil))) mNil)))
  (mSeq (mSet 16 (mCall g_law_draw 2 (mCons (mVar 0) (mCons (mK (.int 5)) mNil))))
  (mSeq (mIfS (bAnd (mT (mBin oLt (mVar 16) (mK (.int 2)))) (bAnd (mT (mBin (oEq true) (mVar 14) (mVar 15))) (mT (mBin oLt (mVar 11) (mVar 12))))) (mAsg (gtTp 2 (gtCons (gtNm 13) (gtCons (gtSub oPut (mVar 5) (mFn oMax (mCons (mVar 14) (mCons (mVar 15) mNil)))) gtNil))) (mTup (mCons (mK .non) (mCons (mFn oMin (mCons (mVar 14) (mCons (mVar 15) mNil))) mNil)))) mNext)
  (mSeq (mIfS (mT (mBin (oEq false) (mVar 16) (mK (.int 4)))) (mPar3 11 12 13 (mCons (mVar 10) (mCons (mVar 10) (mCons (mBin oIx (mLst (mCons (mVar 13) (mCons (mK .non) mNil))) (mCall g_law_draw 2 (mCons (mVar 0) (mCons (mK (.int 2)) mNil)))) mNil)))) mNext)
  (mSeq (mExpr (mBM oAppend (mVar 6) (mCons (mTup (mCons (mVar 8) (mCons (mVar 9) (mCons (mVar 11) (mCons (mVar 12) (mCons (mVar 13) mNil)))))) mNil)))
  (mExpr (mBM oAppend (mVar 7) (mCons (mVar 10) mNil))))))))))
def t_law_net (g_law_base : FT) (g_law_tubes : FT) (g_law_amount : FT) (g_law_root : FT) (g_law_draw : FT) : ST := (mSeq (mAsg (gtTp 4 (gtCons (gtNm 4) (gtCons (gtNm 5) (gtCons (gtNm 6) (gtCons (gtNm 7) gtNil))))) (mTup (mCons (mCall g_law_base 1 (mCons (mVar 0) mNil)) (mCons (mListRgN (mRg1 (mVar 1))) (mCons (mNew mNil) (mCons (mNew mNil) mNil))))))
  (mSeq (mFor (iSeqM (mCall g_law_tubes 5 (mCons (mVar 0) (mCons (mVar 1) (mCons (mVar 4) (mCons (mVar 2) (mCons (mVar 3) mNil))))))) (.tp [(.nm 8), (.nm 9), (.nm 10)]) (t_law_net_b1 g_law_base g_law_tubes g_law_amount g_law_root g_law_draw))
  (mRet (mTup (mCons (mTup (mCons (mVar 4) (mCons (mVar 1) (mCons (mFn oTuple (mCons (mVar 6) mNil)) mNil)))) (mCons (mFn oTuple (mCons (mVar 7) mNil)) mNil))))))
theorem has_law_net {P : Program} {w : World} {K : PySem.W.Frag} {mg : Str → Option Value} {base : Heap} {g_law_base : FT} {g_law_tubes : FT} {g_law_amount : FT} {g_law_root : FT} {g_law_draw : FT} (bl : Blt mg) (D : DefT K mg "_law_net" st_law_net ["m", "many", "rings", "more"] [])
    (k_law_base : Has P w K mg base 3 "_law_base" ["m"] [] g_law_base)
    (k_law_tubes : Has P w K mg base 4 "_law_tubes" ["m", "many", "base", "rings", "more"] [] g_law_tubes)
    (k_law_amount : Has P w K mg base 3 "_law_amount" ["m", "base"] [] g_law_amount)
    (k_law_root : Has P w K mg base 1 "_law_root" ["trees", "at"] [] g_law_root)
    (k_law_draw : Has P w K mg base 2 "_law_draw" ["m", "top"] [] g_law_draw) :
    Has P w K mg base 5 "_law_net" ["m", "many", "rings", "more"] [] (fnM 17 (t_law_net g_law_base g_law_tubes g_law_amount g_law_root g_law_draw)) := by
  have h_law_base := k_law_base.mono (show _ ≤ 4 by decide)
  have h_law_tubes := k_law_tubes.mono (show _ ≤ 4 by decide)
  have h_law_amount := k_law_amount.mono (show _ ≤ 4 by decide)
  have h_law_root := k_law_root.mono (show _ ≤ 4 by decide)
  have h_law_draw := k_law_draw.mono (show _ ≤ 4 by decide)
  have nd := sc_law_net.nd
  refine D.has (k := 4) sc_law_net fun f cdv A outer s H E rm hgd => ?_
  have tk : Takes (cxOf (L2.CX P w) P w K mg base ["m", "many", "rings", "more", "base", "trees", "tubes", "counts", "source", "target", "count", "low", "high", "meter", "near", "far", "way"] "_law_net" (defScope st_law_net) f cdv A outer s H E) (fun c d _ H' => E c d H') := takes_of rfl rfl rfl rfl
  have ps : PassesOwn (model P w) (cxOf (L2.CX P w) P w K mg base ["m", "many", "rings", "more", "base", "trees", "tubes", "counts", "source", "target", "count", "low", "high", "meter", "near", "far", "way"] "_law_net" (defScope st_law_net) f cdv A outer s H E).A (cxOf (L2.CX P w) P w K mg base ["m", "many", "rings", "more", "base", "trees", "tubes", "counts", "source", "target", "count", "low", "high", "meter", "near", "far", "way"] "_law_net" (defScope st_law_net) f cdv A outer s H E).env (cxOf (L2.CX P w) P w K mg base ["m", "many", "rings", "more", "base", "trees", "tubes", "counts", "source", "target", "count", "low", "high", "meter", "near", "far", "way"] "_law_net" (defScope st_law_net) f cdv A outer s H E).xe := passes_of rfl
  exact (dss_cons (ds_asg (de_tup (da_cons (de_go h_law_base rm (gdX hgd) tk (da_cons (de_var 0) da_nil)) (da_cons (de_listRgN rfl bl.list (dr_1 bl.range (de_var 1))) (da_cons (de_new da_nil) (da_cons (de_new da_nil) da_nil))))) (dg_tp rfl (dgs_cons (dg_nm 4 nd) (dgs_cons (dg_nm 5 nd) (dgs_cons (dg_nm 6 nd) (dgs_cons (dg_nm 7 nd) dgs_nil))))))
  (dss_cons (ds_for ps rfl (di_seq (de_go h_law_tubes rm (gdX hgd) tk (da_cons (de_var 0) (da_cons (de_var 1) (da_cons (de_var 4) (da_cons (de_var 2) (da_cons (de_var 3) da_nil))))))) (dt_tp rfl (dts_cons (dt_nm 8 nd) (dts_cons (dt_nm 9 nd) (dts_cons (dt_nm 10 nd) dts_nil)))) (dss_cons (ds_par2 11 12 rfl nd (da_cons (de_callB (call_maxM rfl) s_max bl.max bt_max (da_cons de_int (da_cons (de_bin op_subI s_oI (de_var 10) (de_go h_law_amount rm (gdX hgd) tk (da_cons (de_var 0) (da_cons (de_var 4) da_nil)))) da_nil))) (da_cons (de_bin op_addA s_add (de_var 10) (de_go h_law_amount rm (gdX hgd) tk (da_cons (de_var 0) (da_cons (de_var 4) da_nil)))) da_nil)))
  (dss_cons (ds_set 13 (de_bin op_mod s_oI (de_var 10) (de_var 4)) nd)
  (dss_cons (ds_par2 14 15 rfl nd (da_cons (de_go h_law_root rm (gdX hgd) tk (da_cons (de_var 5) (da_cons (de_var 8) da_nil))) (da_cons (de_go h_law_root rm (gdX hgd) tk (da_cons (de_var 5) (da_cons (de_var 9) da_nil))) da_nil)))
  (dss_cons (ds_set 16 (de_go h_law_draw rm (gdX hgd) tk (da_cons (de_var 0) (da_cons de_int da_nil))) nd)
  (dss_cons (ds_if (dw_db (dw_and (db_cmp op_lt s_oB (de_var 16) de_int) (dw_and (db_cmp (op_neM (ru rm 64)) s_eq (de_var 14) (de_var 15)) (dw_and1 (db_cmp op_lt s_oB (de_var 11) (de_var 12)))))) (dss_one (ds_asg (de_tup (da_cons de_non (da_cons (de_callB (call_minM rfl) s_min bl.min bt_min (da_cons (de_var 14) (da_cons (de_var 15) da_nil))) da_nil))) (dg_tp rfl (dgs_cons (dg_nm 13 nd) (dgs_cons (dg_sub set_list s_put (de_var 5) (de_callB (call_maxM rfl) s_max bl.max bt_max (da_cons (de_var 14) (da_cons (de_var 15) da_nil)))) dgs_nil))))) dss_nil)
  (dss_cons (ds_if (db_cmp (op_eqM (ru rm 64)) s_eq (de_var 16) de_int) (dss_one (ds_par3 11 12 13 rfl nd (da_cons (de_var 10) (da_cons (de_var 10) (da_cons (de_ix ix_2 s_ix (de_lst (da_cons (de_var 13) (da_cons de_non da_nil))) (de_go h_law_draw rm (gdX hgd) tk (da_cons (de_var 0) (da_cons de_int da_nil)))) da_nil))))) dss_nil)
  (dss_cons (ds_expr (de_bmL PySem.F.slot_list_append PySem.F.type_list_append mt_append s_append (de_var 6) (da_cons (de_tup (da_cons (de_var 8) (da_cons (de_var 9) (da_cons (de_var 11) (da_cons (de_var 12) (da_cons (de_var 13) da_nil)))))) da_nil)))
  (dss_one (ds_expr (de_bmL PySem.F.slot_list_append PySem.F.type_list_append mt_append s_append (de_var 7) (da_cons (de_var 10) da_nil))))))))))))
  (dss_one (ds_ret (de_tup (da_cons (de_tup (da_cons (de_var 4) (da_cons (de_var 1) (da_cons (de_callTy call_tupleM s_tuple bl.tuple bt_tuple (da_cons (de_var 6) da_nil)) da_nil)))) (da_cons (de_callTy call_tupleM s_tuple bl.tuple bt_tuple (da_cons (de_var 7) da_nil)) da_nil)))))))
/-! ### _law_bent -/
abbrev st_law_bent : Stmt := topS 38
theorem sc_law_bent : FnScope ["m", "net", "base", "many", "tubes", "at", "way", "far", "source", "target", "low", "high", "meter"] ["m", "net"] (defScope st_law_bent) := ⟨rfl, rfl, rfl, by decide +kernel, rfl, by decide +kernel, by decide +kernel⟩
def t_law_bent (g_law_draw : FT) : ST := (mSeq (mAsg (gtTp 3 (gtCons (gtNm 2) (gtCons (gtNm 3) (gtCons (gtNm 4) gtNil)))) (mVar 1))
  (mSeq (mIfS (mT (mBin (oEq false) (mVar 4) (mTup mNil))) (mRet (mVar 1)) mNext)
  (mSeq (mPar3 5 6 7 (mCons (mCall g_law_draw 2 (mCons (mVar 0) (mCons (mFn oLen (mCons (mVar 4) mNil)) mNil))) (mCons (mCall g_law_draw 2 (mCons (mVar 0) (mCons (mK (.int 4)) mNil))) (mCons (mLst mNil) mNil))))
  (mSeq (mAsg (gtTp 5 (gtCons (gtNm 8) (gtCons (gtNm 9) (gtCons (gtNm 10) (gtCons (gtNm 11) (gtCons (gtNm 12) gtNil)))))) (mBin oIx (mVar 4) (mVar 5)))
  (mSeq (mIfS (bAnd (mT (mBin (oEq false) (mVar 6) (mK (.int 0)))) (mT (mBin (oIs true) (mVar 12) (mK .non)))) (mSet 7 (mLst (mCons (mTup (mCons (mVar 8) (mCons (mVar 9) (mCons (mVar 10) (mCons (mVar 11) (mCons (mBin oMod (mBin oAdd (mBin oAdd (mVar 12) (mK (.int 1))) (mCall g_law_draw 2 (mCons (mVar 0) (mCons (mBin oSub (mVar 2) (mK (.int 1))) mNil)))) (mVar 2)) mNil)))))) mNil))) mNext)
  (mSeq (mIfS (mT (mBin (oEq false) (mVar 6) (mK (.int 1)))) (mSet 7 (mLst (mCons (mTup (mCons (mVar 8) (mCons (mVar 9) (mCons (mBin oAdd (mVar 10) (mBin oDiv (mBin oMul (mBin oSub (mVar 11) (mVar 10)) (mBin oAdd (mK (.int 1)) (mCall g_law_draw 2 (mCons (mVar 0) (mCons (mK (.int 3)) mNil))))) (mK (.int 3)))) (mCons (mVar 11) (mCons (mVar 12) mNil)))))) mNil))) mNext)
  (mSeq (mIfS (mT (mBin (oEq false) (mVar 6) (mK (.int 2)))) (mSet 7 (mLst (mCons (mTup (mCons (mVar 8) (mCons (mVar 9) (mCons (mVar 10) (mCons (mBin oSub (mVar 11) (mBin oDiv (mBin oMul (mBin oSub (mVar 11) (mVar 10)) (mBin oAdd (mK (.int 1)) (mCall g_law_draw 2 (mCons (mVar 0) (mCons (mK (.int 3)) mNil))))) (mK (.int 3)))) (mCons (mVar 12) mNil)))))) mNil))) mNext)
  (mSeq (mIfS (bAnd (mT (mBin (oEq false) (mVar 6) (mK (.int 3)))) (mT (mBin (oIs true) (mVar 12) (mK .non)))) (mSet 7 (mLst (mCons (mTup (mCons (mVar 9) (mCons (mVar 8) (mCons (mVar 10) (mCons (mVar 11) (mCons (mVar 12) mNil)))))) mNil))) mNext)
  (mSeq (mIfS (mT (mBin (oEq false) (mVar 7) (mLst mNil))) (mRet (mVar 1)) mNext)
  (mRet (mTup (mCons (mVar 2) (mCons (mVar 3) (mCons (mBin oAdd (mBin oAdd (mSl (mVar 4) pNo (pAt (mVar 5))) (mFn oTuple (mCons (mVar 7) mNil))) (mSl (mVar 4) (pAt (mBin oAdd (mVar 5) (mK (.int 1)))) pNo)) mNil))))))))))))))
theorem has_law_bent {P : Program} {w : World} {K : PySem.W.Frag} {mg : Str → Option Value} {base : Heap} {g_law_draw : FT} (bl : Blt mg) (D : DefT K mg "_law_bent" st_law_bent ["m", "net"] [])
    (k_law_draw : Has P w K mg base 2 "_law_draw" ["m", "top"] [] g_law_draw) :
    Has P w K mg base 3 "_law_bent" ["m", "net"] [] (fnM 13 (t_law_bent g_law_draw)) := by
  have h_law_draw := k_law_draw.mono (show _ ≤ 2 by decide)
  have nd := sc_law_bent.nd
  refine D.has (k := 2) sc_law_bent fun f cdv A outer s H E rm hgd => ?_
  have tk : Takes (cxOf (L2.CX P w) P w K mg base ["m", "net", "base", "many", "tubes", "at", "way", "far", "source", "target", "low", "high", "meter"] "_law_bent" (defScope st_law_bent) f cdv A outer s H E) (fun c d _ H' => E c d H') := takes_of rfl rfl rfl rfl
  exact (dss_cons (ds_asg (de_var 1) (dg_tp rfl (dgs_cons (dg_nm 2 nd) (dgs_cons (dg_nm 3 nd) (dgs_cons (dg_nm 4 nd) dgs_nil)))))
  (dss_cons (ds_if (db_cmp (op_eqM (ru rm 64)) s_eq (de_var 4) (de_tup da_nil)) (dss_one (ds_ret (de_var 1))) dss_nil)
  (dss_cons (ds_par3 5 6 7 rfl nd (da_cons (de_go h_law_draw rm (gdX hgd) tk (da_cons (de_var 0) (da_cons (de_callB call_lenM s_len bl.len bt_len (da_cons (de_var 4) da_nil)) da_nil))) (da_cons (de_go h_law_draw rm (gdX hgd) tk (da_cons (de_var 0) (da_cons de_int da_nil))) (da_cons (de_lst da_nil) da_nil))))
  (dss_cons (ds_asg (de_ix ix_2 s_ix (de_var 4) (de_var 5)) (dg_tp rfl (dgs_cons (dg_nm 8 nd) (dgs_cons (dg_nm 9 nd) (dgs_cons (dg_nm 10 nd) (dgs_cons (dg_nm 11 nd) (dgs_cons (dg_nm 12 nd) dgs_nil)))))))
  (dss_cons (ds_if (dw_db (dw_and (db_cmp (op_eqM (ru rm 64)) s_eq (de_var 6) de_int) (dw_and1 (db_cmp op_notN s_isnot (de_var 12) de_non)))) (dss_one (ds_set 7 (de_lst (da_cons (de_tup (da_cons (de_var 8) (da_cons (de_var 9) (da_cons (de_var 10) (da_cons (de_var 11) (da_cons (de_bin op_mod s_oI (de_bin op_addA s_add (de_bin op_addA s_add (de_var 12) de_int) (de_go h_law_draw rm (gdX hgd) tk (da_cons (de_var 0) (da_cons (de_bin op_subI s_oI (de_var 2) de_int) da_nil)))) (de_var 2)) da_nil)))))) da_nil)) nd)) dss_nil)
  (dss_cons (ds_if (db_cmp (op_eqM (ru rm 64)) s_eq (de_var 6) de_int) (dss_one (ds_set 7 (de_lst (da_cons (de_tup (da_cons (de_var 8) (da_cons (de_var 9) (da_cons (de_bin op_addA s_add (de_var 10) (de_bin op_fdivW s_oI (de_bin op_mulW s_oI (de_bin op_subI s_oI (de_var 11) (de_var 10)) (de_bin op_addA s_add de_int (de_go h_law_draw rm (gdX hgd) tk (da_cons (de_var 0) (da_cons de_int da_nil))))) de_int)) (da_cons (de_var 11) (da_cons (de_var 12) da_nil)))))) da_nil)) nd)) dss_nil)
  (dss_cons (ds_if (db_cmp (op_eqM (ru rm 64)) s_eq (de_var 6) de_int) (dss_one (ds_set 7 (de_lst (da_cons (de_tup (da_cons (de_var 8) (da_cons (de_var 9) (da_cons (de_var 10) (da_cons (de_bin op_subI s_oI (de_var 11) (de_bin op_fdivW s_oI (de_bin op_mulW s_oI (de_bin op_subI s_oI (de_var 11) (de_var 10)) (de_bin op_addA s_add de_int (de_go h_law_draw rm (gdX hgd) tk (da_cons (de_var 0) (da_cons de_int da_nil))))) de_int)) (da_cons (de_var 12) da_nil)))))) da_nil)) nd)) dss_nil)
  (dss_cons (ds_if (dw_db (dw_and (db_cmp (op_eqM (ru rm 64)) s_eq (de_var 6) de_int) (dw_and1 (db_cmp op_notN s_isnot (de_var 12) de_non)))) (dss_one (ds_set 7 (de_lst (da_cons (de_tup (da_cons (de_var 9) (da_cons (de_var 8) (da_cons (de_var 10) (da_cons (de_var 11) (da_cons (de_var 12) da_nil)))))) da_nil)) nd)) dss_nil)
  (dss_cons (ds_if (db_cmp (op_eqM (ru rm 64)) s_eq (de_var 7) (de_lst da_nil)) (dss_one (ds_ret (de_var 1))) dss_nil)
  (dss_one (ds_ret (de_tup (da_cons (de_var 2) (da_cons (de_var 3) (da_cons (de_bin op_addA s_add (de_bin op_addA s_add (de_slice (de_var 4) dp_no (dp_at (de_var 5))) (de_callTy call_tupleM s_tuple bl.tuple bt_tuple (da_cons (de_var 7) da_nil))) (de_slice (de_var 4) (dp_at (de_bin op_addA s_add (de_var 5) de_int)) dp_no)) da_nil)))))))))))))))
/-! ### _law_is_wide -/
abbrev st_law_is_wide : Stmt := topS 39
theorem sc_law_is_wide : FnScope ["tube"] ["tube"] (defScope st_law_is_wide) := ⟨rfl, rfl, rfl, by decide +kernel, rfl, by decide +kernel, by decide +kernel⟩
def t_law_is_wide : ST := (mRet (mAnd (mBin (oIs false) (mBin oIx (mVar 0) (mK (.int 4))) (mK .non)) (mBin oLt (mBin oIx (mVar 0) (mK (.int 2))) (mBin oIx (mVar 0) (mK (.int 3))))))
theorem has_law_is_wide {P : Program} {w : World} {K : PySem.W.Frag} {mg : Str → Option Value} {base : Heap} (bl : Blt mg) (D : DefT K mg "_law_is_wide" st_law_is_wide ["tube"] []) :
    Has P w K mg base 1 "_law_is_wide" ["tube"] [] (fnM 1 (t_law_is_wide)) := by
  have nd := sc_law_is_wide.nd
  refine D.has (k := 0) sc_law_is_wide fun f cdv A outer s H E rm hgd => ?_
  have tk : Takes (cxOf (L2.CX P w) P w K mg base ["tube"] "_law_is_wide" (defScope st_law_is_wide) f cdv A outer s H E) (fun c d _ H' => E c d H') := takes_of rfl rfl rfl rfl
  exact (dss_one (ds_ret (de_and (de_cmp op_isN s_is (de_ix ix_2 s_ix (de_var 0) de_int) de_non) (de_one (de_cmp op_lt s_oB (de_ix ix_2 s_ix (de_var 0) de_int) (de_ix ix_2 s_ix (de_var 0) de_int))))))
/-! ### _law_ins -/
abbrev st_law_ins : Stmt := topS 40
theorem sc_law_ins : FnScope ["net", "spots", "at", "tube"] ["net", "spots"] (defScope st_law_ins) := ⟨rfl, rfl, rfl, by decide +kernel, rfl, by decide +kernel, by decide +kernel⟩
def t_law_ins : ST := (mRet (mComp (mEnum (mCons (mBin oIx (mVar 0) (mK (.int 2))) mNil)) (.tp [(.nm 2), (.nm 3)]) (bAnd (mT (mBin (oIn false) (mBin oIx (mVar 3) (mK (.int 1))) (mVar 1))) (mT (mBin (oIn true) (mBin oIx (mVar 3) (mK (.int 0))) (mVar 1)))) (mVar 2) [2, 3]))
theorem has_law_ins {P : Program} {w : World} {K : PySem.W.Frag} {mg : Str → Option Value} {base : Heap} (bl : Blt mg) (D : DefT K mg "_law_ins" st_law_ins ["net", "spots"] []) :
    Has P w K mg base 1 "_law_ins" ["net", "spots"] [] (fnM 4 (t_law_ins)) := by
  have nd := sc_law_ins.nd
  refine D.has (k := 0) sc_law_ins fun f cdv A outer s H E rm hgd => ?_
  have tk : Takes (cxOf (L2.CX P w) P w K mg base ["net", "spots", "at", "tube"] "_law_ins" (defScope st_law_ins) f cdv A outer s H E) (fun c d _ H' => E c d H') := takes_of rfl rfl rfl rfl
  exact (dss_one (ds_ret (de_comp (own := [("at", 2), ("tube", 3)]) rfl nd (di_enum bl.enumerate (da_cons (de_ix ix_2 s_ix (de_var 0) de_int) da_nil)) (blkOk_by (by rfl)) (fun _ _ _ _ _ => (dt_tp rfl (dts_cons (dt_nm 2 nd) (dts_cons (dt_nm 3 nd) dts_nil)))) (fun _ _ _ _ _ => (dts_one (dw_db (dw_and (db_cmp (op_inM (ru rm 65)) s_in (de_ix ix_2 s_ix (de_var 3) de_int) (de_var 1)) (dw_and1 (db_cmp (op_notInM (ru rm 65)) s_in (de_ix ix_2 s_ix (de_var 3) de_int) (de_var 1))))))) (fun _ _ _ _ _ => (de_var 2)))))
/-! ### _law_outs -/
abbrev st_law_outs : Stmt := topS 41
theorem sc_law_outs : FnScope ["net", "spots", "at", "tube"] ["net", "spots"] (defScope st_law_outs) := ⟨rfl, rfl, rfl, by decide +kernel, rfl, by decide +kernel, by decide +kernel⟩
def t_law_outs : ST := (mRet (mComp (mEnum (mCons (mBin oIx (mVar 0) (mK (.int 2))) mNil)) (.tp [(.nm 2), (.nm 3)]) (bAnd (mT (mBin (oIn false) (mBin oIx (mVar 3) (mK (.int 0))) (mVar 1))) (mT (mBin (oIn true) (mBin oIx (mVar 3) (mK (.int 1))) (mVar 1)))) (mVar 2) [2, 3]))
theorem has_law_outs {P : Program} {w : World} {K : PySem.W.Frag} {mg : Str → Option Value} {base : Heap} (bl : Blt mg) (D : DefT K mg "_law_outs" st_law_outs ["net", "spots"] []) :
    Has P w K mg base 1 "_law_outs" ["net", "spots"] [] (fnM 4 (t_law_outs)) := by
  have nd := sc_law_outs.nd
  refine D.has (k := 0) sc_law_outs fun f cdv A outer s H E rm hgd => ?_
  have tk : Takes (cxOf (L2.CX P w) P w K mg base ["net", "spots", "at", "tube"] "_law_outs" (defScope st_law_outs) f cdv A outer s H E) (fun c d _ H' => E c d H') := takes_of rfl rfl rfl rfl
  exact (dss_one (ds_ret (de_comp (own := [("at", 2), ("tube", 3)]) rfl nd (di_enum bl.enumerate (da_cons (de_ix ix_2 s_ix (de_var 0) de_int) da_nil)) (blkOk_by (by rfl)) (fun _ _ _ _ _ => (dt_tp rfl (dts_cons (dt_nm 2 nd) (dts_cons (dt_nm 3 nd) dts_nil)))) (fun _ _ _ _ _ => (dts_one (dw_db (dw_and (db_cmp (op_inM (ru rm 65)) s_in (de_ix ix_2 s_ix (de_var 3) de_int) (de_var 1)) (dw_and1 (db_cmp (op_notInM (ru rm 65)) s_in (de_ix ix_2 s_ix (de_var 3) de_int) (de_var 1))))))) (fun _ _ _ _ _ => (de_var 2)))))
/-! ### _law_joined -/
abbrev st_law_joined : Stmt := topS 42
theorem sc_law_joined : FnScope ["net", "at", "without", "found", "n", "k", "tube"] ["net", "at", "without"] (defScope st_law_joined) := ⟨rfl, rfl, rfl, by decide +kernel, rfl, by decide +kernel, by decide +kernel⟩
def t_law_joined_b1 (g_law_is_wide : FT) : ST := (mIfS (bAnd (mT (mBin (oEq true) (mVar 5) (mVar 2))) (bAnd (mT (mCall g_law_is_wide 1 (mCons (mVar 6) mNil))) (mT (mBin (oEq true) (mBin (oIn false) (mBin oIx (mVar 6) (mK (.int 0))) (mVar 3)) (mBin (oIn false) (mBin oIx (mVar 6) (mK (.int 1))) (mVar 3)))))) (mExpr (mBM oAppend (mVar 3) (mCons (mIf (mT (mBin (oIn false) (mBin oIx (mVar 6) (mK (.int 0))) (mVar 3))) (mBin oIx (mVar 6) (mK (.int 1))) (mBin oIx (mVar 6) (mK (.int 0)))) mNil))) mNext)
def t_law_joined_b2 (g_law_is_wide : FT) : ST := (mFor (mEnum (mCons (mBin oIx (mVar 0) (mK (.int 2))) mNil)) (.tp [(.nm 5), (.nm 6)]) (t_law_joined_b1 g_law_is_wide))
def t_law_joined (g_law_is_wide : FT) : ST := (mSeq (mSet 3 (mNew (mCons (mVar 1) mNil)))
  (mSeq (mFor (iRngM1 (mCons (mBin oIx (mVar 0) (mK (.int 1))) mNil)) (.nm 4) (t_law_joined_b2 g_law_is_wide))
  (mRet (mFn oSorted (mCons (mVar 3) mNil)))))
theorem has_law_joined {P : Program} {w : World} {K : PySem.W.Frag} {mg : Str → Option Value} {base : Heap} {g_law_is_wide : FT} (bl : Blt mg) (D : DefT K mg "_law_joined" st_law_joined ["net", "at", "without"] [])
    (k_law_is_wide : Has P w K mg base 1 "_law_is_wide" ["tube"] [] g_law_is_wide) :
    Has P w K mg base 2 "_law_joined" ["net", "at", "without"] [] (fnM 7 (t_law_joined g_law_is_wide)) := by
  have h_law_is_wide := k_law_is_wide.mono (show _ ≤ 1 by decide)
  have nd := sc_law_joined.nd
  refine D.has (k := 1) sc_law_joined fun f cdv A outer s H E rm hgd => ?_
  have tk : Takes (cxOf (L2.CX P w) P w K mg base ["net", "at", "without", "found", "n", "k", "tube"] "_law_joined" (defScope st_law_joined) f cdv A outer s H E) (fun c d _ H' => E c d H') := takes_of rfl rfl rfl rfl
  have ps : PassesOwn (model P w) (cxOf (L2.CX P w) P w K mg base ["net", "at", "without", "found", "n", "k", "tube"] "_law_joined" (defScope st_law_joined) f cdv A outer s H E).A (cxOf (L2.CX P w) P w K mg base ["net", "at", "without", "found", "n", "k", "tube"] "_law_joined" (defScope st_law_joined) f cdv A outer s H E).env (cxOf (L2.CX P w) P w K mg base ["net", "at", "without", "found", "n", "k", "tube"] "_law_joined" (defScope st_law_joined) f cdv A outer s H E).xe := passes_of rfl
  exact (dss_cons (ds_set 3 (de_new (da_cons (de_var 1) da_nil)) nd)
  (dss_cons (ds_for ps rfl (di_range1 bl.range (da_cons (de_ix ix_2 s_ix (de_var 0) de_int) da_nil)) (dt_nm 4 nd) (dss_one (ds_for ps rfl (di_enum bl.enumerate (da_cons (de_ix ix_2 s_ix (de_var 0) de_int) da_nil)) (dt_tp rfl (dts_cons (dt_nm 5 nd) (dts_cons (dt_nm 6 nd) dts_nil))) (dss_one (ds_if (dw_db (dw_and (db_cmp (op_neM (ru rm 64)) s_eq (de_var 5) (de_var 2)) (dw_and (db_val (de_go h_law_is_wide rm (gdX hgd) tk (da_cons (de_var 6) da_nil))) (dw_and1 (db_cmp (op_neM (ru rm 64)) s_eq (de_cmp (op_inM (ru rm 65)) s_in (de_ix ix_2 s_ix (de_var 6) de_int) (de_var 3)) (de_cmp (op_inM (ru rm 65)) s_in (de_ix ix_2 s_ix (de_var 6) de_int) (de_var 3))))))) (dss_one (ds_expr (de_bmL PySem.F.slot_list_append PySem.F.type_list_append mt_append s_append (de_var 3) (da_cons (de_if (db_cmp (op_inM (ru rm 65)) s_in (de_ix ix_2 s_ix (de_var 6) de_int) (de_var 3)) (de_ix ix_2 s_ix (de_var 6) de_int) (de_ix ix_2 s_ix (de_var 6) de_int)) da_nil)))) dss_nil)))))
  (dss_one (ds_ret (de_callB cr_sortedI s_sorted bl.sorted bt_sorted (da_cons (de_var 3) da_nil))))))
/-! ### _law_clusters -/
abbrev st_law_clusters : Stmt := topS 43
theorem sc_law_clusters : FnScope ["net", "found", "at", "cluster"] ["net"] (defScope st_law_clusters) := ⟨rfl, rfl, rfl, by decide +kernel, rfl, by decide +kernel, by decide +kernel⟩
def t_law_clusters_b1 (g_law_joined : FT) : ST := (mSeq (mSet 3 (mFn oTuple (mCons (mCall g_law_joined 3 (mCons (mVar 0) (mCons (mVar 2) (mCons (mK .non) mNil)))) mNil)))
  (mIfS (mT (mBin (oEq false) (mBin oIx (mVar 3) (mK (.int 0))) (mVar 2))) (mExpr (mBM oAppend (mVar 1) (mCons (mVar 3) mNil))) mNext))
def t_law_clusters (g_law_joined : FT) : ST := (mSeq (mSet 1 (mNew mNil))
  (mSeq (mFor (iRngM1 (mCons (mBin oIx (mVar 0) (mK (.int 1))) mNil)) (.nm 2) (t_law_clusters_b1 g_law_joined))
  (mRet (mVar 1))))
theorem has_law_clusters {P : Program} {w : World} {K : PySem.W.Frag} {mg : Str → Option Value} {base : Heap} {g_law_joined : FT} (bl : Blt mg) (D : DefT K mg "_law_clusters" st_law_clusters ["net"] [])
    (k_law_joined : Has P w K mg base 2 "_law_joined" ["net", "at", "without"] [] g_law_joined) :
    Has P w K mg base 3 "_law_clusters" ["net"] [] (fnM 4 (t_law_clusters g_law_joined)) := by
  have h_law_joined := k_law_joined.mono (show _ ≤ 2 by decide)
  have nd := sc_law_clusters.nd
  refine D.has (k := 2) sc_law_clusters fun f cdv A outer s H E rm hgd => ?_
  have tk : Takes (cxOf (L2.CX P w) P w K mg base ["net", "found", "at", "cluster"] "_law_clusters" (defScope st_law_clusters) f cdv A outer s H E) (fun c d _ H' => E c d H') := takes_of rfl rfl rfl rfl
  have ps : PassesOwn (model P w) (cxOf (L2.CX P w) P w K mg base ["net", "found", "at", "cluster"] "_law_clusters" (defScope st_law_clusters) f cdv A outer s H E).A (cxOf (L2.CX P w) P w K mg base ["net", "found", "at", "cluster"] "_law_clusters" (defScope st_law_clusters) f cdv A outer s H E).env (cxOf (L2.CX P w) P w K mg base ["net", "found", "at", "cluster"] "_law_clusters" (defScope st_law_clusters) f cdv A outer s H E).xe := passes_of rfl
  exact (dss_cons (ds_set 1 (de_new da_nil) nd)
  (dss_cons (ds_for ps rfl (di_range1 bl.range (da_cons (de_ix ix_2 s_ix (de_var 0) de_int) da_nil)) (dt_nm 2 nd) (dss_cons (ds_set 3 (de_callTy call_tupleM s_tuple bl.tuple bt_tuple (da_cons (de_go h_law_joined rm (gdX hgd) tk (da_cons (de_var 0) (da_cons (de_var 2) (da_cons de_non da_nil)))) da_nil)) nd)
  (dss_one (ds_if (db_cmp (op_eqM (ru rm 64)) s_eq (de_ix ix_2 s_ix (de_var 3) de_int) (de_var 2)) (dss_one (ds_expr (de_bmL PySem.F.slot_list_append PySem.F.type_list_append mt_append s_append (de_var 1) (da_cons (de_var 3) da_nil)))) dss_nil))))
  (dss_one (ds_ret (de_var 1)))))
/-! ### _law_shown -/
abbrev st_law_shown : Stmt := topS 44
theorem sc_law_shown : FnScope ["net", "tube"] ["net", "tube"] (defScope st_law_shown) := ⟨rfl, rfl, rfl, by decide +kernel, rfl, by decide +kernel, by decide +kernel⟩
def t_law_shown : ST := (mRet (mIf (mT (mBin (oIs false) (mBin oIx (mVar 1) (mK (.int 4))) (mK .non))) (mBin oMod (mBin oIx (mVar 1) (mK (.int 2))) (mBin oIx (mVar 0) (mK (.int 0)))) (mBin oIx (mVar 1) (mK (.int 4)))))
theorem has_law_shown {P : Program} {w : World} {K : PySem.W.Frag} {mg : Str → Option Value} {base : Heap} (bl : Blt mg) (D : DefT K mg "_law_shown" st_law_shown ["net", "tube"] []) :
    Has P w K mg base 1 "_law_shown" ["net", "tube"] [] (fnM 2 (t_law_shown)) := by
  have nd := sc_law_shown.nd
  refine D.has (k := 0) sc_law_shown fun f cdv A outer s H E rm hgd => ?_
  have tk : Takes (cxOf (L2.CX P w) P w K mg base ["net", "tube"] "_law_shown" (defScope st_law_shown) f cdv A outer s H E) (fun c d _ H' => E c d H') := takes_of rfl rfl rfl rfl
  exact (dss_one (ds_ret (de_if (db_cmp op_isN s_is (de_ix ix_2 s_ix (de_var 1) de_int) de_non) (de_bin op_mod s_oI (de_ix ix_2 s_ix (de_var 1) de_int) (de_ix ix_2 s_ix (de_var 0) de_int)) (de_ix ix_2 s_ix (de_var 1) de_int))))
/-! ### _law_total -/
abbrev st_law_total : Stmt := topS 45
theorem sc_law_total : FnScope ["net", "spots", "total", "sign", "some", "at"] ["net", "spots"] (defScope st_law_total) := ⟨rfl, rfl, rfl, by decide +kernel, rfl, by decide +kernel, by decide +kernel⟩
def t_law_total_b1 (g_law_ins : FT) (g_law_outs : FT) (g_law_is_wide : FT) (g_law_shown : FT) : ST := (mIfS (bNot (mT (mCall g_law_is_wide 1 (mCons (mBin oIx (mBin oIx (mVar 0) (mK (.int 2))) (mVar 5)) mNil)))) (mSet 2 (mBin oAdd (mVar 2) (mBin oMul (mVar 3) (mCall g_law_shown 2 (mCons (mVar 0) (mCons (mBin oIx (mBin oIx (mVar 0) (mK (.int 2))) (mVar 5)) mNil)))))) mNext)
def t_law_total_b2 (g_law_ins : FT) (g_law_outs : FT) (g_law_is_wide : FT) (g_law_shown : FT) : ST := (mFor (iSeqM (mVar 4)) (.nm 5) (t_law_total_b1 g_law_ins g_law_outs g_law_is_wide g_law_shown))
def t_law_total (g_law_ins : FT) (g_law_outs : FT) (g_law_is_wide : FT) (g_law_shown : FT) : ST := (mSeq (mSet 2 (mK (.int 0)))
  (mSeq (mFor (iSeqM (mTup (mCons (mTup (mCons (mK (.int 1)) (mCons (mCall g_law_ins 2 (mCons (mVar 0) (mCons (mVar 1) mNil))) mNil))) (mCons (mTup (mCons (mBin oSub (mK (.int 0)) (mK (.int 1))) (mCons (mCall g_law_outs 2 (mCons (mVar 0) (mCons (mVar 1) mNil))) mNil))) mNil)))) (.tp [(.nm 3), (.nm 4)]) (t_law_total_b2 g_law_ins g_law_outs g_law_is_wide g_law_shown))
  (mRet (mBin oMod (mVar 2) (mBin oIx (mVar 0) (mK (.int 0)))))))
theorem has_law_total {P : Program} {w : World} {K : PySem.W.Frag} {mg : Str → Option Value} {base : Heap} {g_law_ins : FT} {g_law_outs : FT} {g_law_is_wide : FT} {g_law_shown : FT} (bl : Blt mg) (D : DefT K mg "_law_total" st_law_total ["net", "spots"] [])
    (k_law_ins : Has P w K mg base 1 "_law_ins" ["net", "spots"] [] g_law_ins)
    (k_law_outs : Has P w K mg base 1 "_law_outs" ["net", "spots"] [] g_law_outs)
    (k_law_is_wide : Has P w K mg base 1 "_law_is_wide" ["tube"] [] g_law_is_wide)
    (k_law_shown : Has P w K mg base 1 "_law_shown" ["net", "tube"] [] g_law_shown) :
    Has P w K mg base 2 "_law_total" ["net", "spots"] [] (fnM 6 (t_law_total g_law_ins g_law_outs g_law_is_wide g_law_shown)) := by
  have h_law_ins := k_law_ins.mono (show _ ≤ 1 by decide)
  have h_law_outs := k_law_outs.mono (show _ ≤ 1 by decide)
  have h_law_is_wide := k_law_is_wide.mono (show _ ≤ 1 by decide)
  have h_law_shown := k_law_shown.mono (show _ ≤ 1 by decide)
  have nd := sc_law_total.nd
  refine D.has (k := 1) sc_law_total fun f cdv A outer s H E rm hgd => ?_
  have tk : Takes (cxOf (L2.CX P w) P w K mg base ["net", "spots", "total", "sign", "some", "at"] "_law_total" (defScope st_law_total) f cdv A outer s H E) (fun c d _ H' => E c d H') := takes_of rfl rfl rfl rfl
  have ps : PassesOwn (model P w) (cxOf (L2.CX P w) P w K mg base ["net", "spots", "total", "sign", "some", "at"] "_law_total" (defScope st_law_total) f cdv A outer s H E).A (cxOf (L2.CX P w) P w K mg base ["net", "spots", "total", "sign", "some", "at"] "_law_total" (defScope st_law_total) f cdv A outer s H E).env (cxOf (L2.CX P w) P w K mg base ["net", "spots", "total", "sign", "some", "at"] "_law_total" (defScope st_law_total) f cdv A outer s H E).xe := passes_of rfl
  exact (dss_cons (ds_set 2 de_int nd)
  (dss_cons (ds_for ps rfl (di_seq (de_tup (da_cons (de_tup (da_cons de_int (da_cons (de_go h_law_ins rm (gdX hgd) tk (da_cons (de_var 0) (da_cons (de_var 1) da_nil))) da_nil))) (da_cons (de_tup (da_cons (de_bin op_subI s_oI de_int de_int) (da_cons (de_go h_law_outs rm (gdX hgd) tk (da_cons (de_var 0) (da_cons (de_var 1) da_nil))) da_nil))) da_nil)))) (dt_tp rfl (dts_cons (dt_nm 3 nd) (dts_cons (dt_nm 4 nd) dts_nil))) (dss_one (ds_for ps rfl (di_seq (de_var 4)) (dt_nm 5 nd) (dss_one (ds_if (db_not (db_val (de_go h_law_is_wide rm (gdX hgd) tk (da_cons (de_ix ix_2 s_ix (de_ix ix_2 s_ix (de_var 0) de_int) (de_var 5)) da_nil)))) (dss_one (ds_set 2 (de_bin op_addA s_add (de_var 2) (de_bin op_mulW s_oI (de_var 3) (de_go h_law_shown rm (gdX hgd) tk (da_cons (de_var 0) (da_cons (de_ix ix_2 s_ix (de_ix ix_2 s_ix (de_var 0) de_int) (de_var 5)) da_nil))))) nd)) dss_nil)))))
  (dss_one (ds_ret (de_bin op_mod s_oI (de_var 2) (de_ix ix_2 s_ix (de_var 0) de_int))))))
/-! ### _law_wrong -/
abbrev st_law_wrong : Stmt := topS 46
theorem sc_law_wrong : FnScope ["net", "cluster"] ["net"] (defScope st_law_wrong) := ⟨rfl, rfl, rfl, by decide +kernel, rfl, by decide +kernel, by decide +kernel⟩
def t_law_wrong (g_law_clusters : FT) (g_law_total : FT) : ST := (mRet (mComp (iSeqM (mCall g_law_clusters 1 (mCons (mVar 0) mNil))) (.nm 1) (mT (mBin (oEq true) (mCall g_law_total 2 (mCons (mVar 0) (mCons (mVar 1) mNil))) (mK (.int 0)))) (mVar 1) [1]))
theorem has_law_wrong {P : Program} {w : World} {K : PySem.W.Frag} {mg : Str → Option Value} {base : Heap} {g_law_clusters : FT} {g_law_total : FT} (bl : Blt mg) (D : DefT K mg "_law_wrong" st_law_wrong ["net"] [])
    (k_law_clusters : Has P w K mg base 3 "_law_clusters" ["net"] [] g_law_clusters)
    (k_law_total : Has P w K mg base 2 "_law_total" ["net", "spots"] [] g_law_total) :
    Has P w K mg base 4 "_law_wrong" ["net"] [] (fnM 2 (t_law_wrong g_law_clusters g_law_total)) := by
  have h_law_clusters := k_law_clusters.mono (show _ ≤ 3 by decide)
  have h_law_total := k_law_total.mono (show _ ≤ 3 by decide)
  have nd := sc_law_wrong.nd
  refine D.has (k := 3) sc_law_wrong fun f cdv A outer s H E rm hgd => ?_
  have tk : Takes (cxOf (L2.CX P w) P w K mg base ["net", "cluster"] "_law_wrong" (defScope st_law_wrong) f cdv A outer s H E) (fun c d _ H' => E c d H') := takes_of rfl rfl rfl rfl
  exact (dss_one (ds_ret (de_comp (own := [("cluster", 1)]) rfl nd (di_seq (de_go h_law_clusters rm (gdX hgd) tk (da_cons (de_var 0) da_nil))) (blkOk_by (by rfl)) (fun _ _ _ _ _ => (dt_nm 1 nd)) (fun _ _ _ _ _ => (dts_one (db_cmp (op_neM (ru rm 64)) s_eq (de_go h_law_total rm (gdX hgd) tk0 (da_cons (de_var 0) (da_cons (de_var 1) da_nil))) de_int))) (fun _ _ _ _ _ => (de_var 1)))))
/-! ### _law_sized_net -/
abbrev st_law_sized_net : Stmt := topS 47
theorem sc_law_sized_net : FnScope ["m", "net", "bent"] ["m"] (defScope st_law_sized_net) := ⟨rfl, rfl, rfl, by decide +kernel, rfl, by decide +kernel, by decide +kernel⟩
def t_law_sized_net (g_law_draw : FT) (g_law_net : FT) (g_law_bent : FT) (g_law_wrong : FT) : ST := (mSeq (mIfS (mT (mBin (oEq false) (mCall g_law_draw 2 (mCons (mVar 0) (mCons (mK (.int 8)) mNil))) (mK (.int 0)))) (mSet 1 (mBin oIx (mCall g_law_net 4 (mCons (mVar 0) (mCons (mK (.int 24)) (mCons (mBin oAdd (mK (.int 6)) (mCall g_law_draw 2 (mCons (mVar 0) (mCons (mK (.int 5)) mNil)))) (mCons (mCall g_law_draw 2 (mCons (mVar 0) (mCons (mK (.int 12)) mNil))) mNil))))) (mK (.int 0)))) (mSet 1 (mBin oIx (mCall g_law_net 4 (mCons (mVar 0) (mCons (mBin oAdd (mK (.int 1)) (mCall g_law_draw 2 (mCons (mVar 0) (mCons (mK (.int 8)) mNil)))) (mCons (mCall g_law_draw 2 (mCons (mVar 0) (mCons (mK (.int 7)) mNil))) (mCons (mCall g_law_draw 2 (mCons (mVar 0) (mCons (mK (.int 5)) mNil))) mNil))))) (mK (.int 0)))))
  (mSeq (mSet 2 (mCall g_law_bent 2 (mCons (mVar 0) (mCons (mVar 1) mNil))))
  (mRet (mIf (mT (mBin (oEq false) (mCall g_law_wrong 1 (mCons (mVar 2) mNil)) (mLst mNil))) (mVar 2) (mVar 1)))))
theorem has_law_sized_net {P : Program} {w : World} {K : PySem.W.Frag} {mg : Str → Option Value} {base : Heap} {g_law_draw : FT} {g_law_net : FT} {g_law_bent : FT} {g_law_wrong : FT} (bl : Blt mg) (D : DefT K mg "_law_sized_net" st_law_sized_net ["m"] [])
    (k_law_draw : Has P w K mg base 2 "_law_draw" ["m", "top"] [] g_law_draw)
    (k_law_net : Has P w K mg base 5 "_law_net" ["m", "many", "rings", "more"] [] g_law_net)
    (k_law_bent : Has P w K mg base 3 "_law_bent" ["m", "net"] [] g_law_bent)
    (k_law_wrong : Has P w K mg base 4 "_law_wrong" ["net"] [] g_law_wrong) :
    Has P w K mg base 6 "_law_sized_net" ["m"] [] (fnM 3 (t_law_sized_net g_law_draw g_law_net g_law_bent g_law_wrong)) := by
  have h_law_draw := k_law_draw.mono (show _ ≤ 5 by decide)
  have h_law_net := k_law_net.mono (show _ ≤ 5 by decide)
  have h_law_bent := k_law_bent.mono (show _ ≤ 5 by decide)
  have h_law_wrong := k_law_wrong.mono (show _ ≤ 5 by decide)
  have nd := sc_law_sized_net.nd
  refine D.has (k := 5) sc_law_sized_net fun f cdv A outer s H E rm hgd => ?_
  have tk : Takes (cxOf (L2.CX P w) P w K mg base ["m", "net", "bent"] "_law_sized_net" (defScope st_law_sized_net) f cdv A outer s H E) (fun c d _ H' => E c d H') := takes_of rfl rfl rfl rfl
  exact (dss_cons (ds_if (db_cmp (op_eqM (ru rm 64)) s_eq (de_go h_law_draw rm (gdX hgd) tk (da_cons (de_var 0) (da_cons de_int da_nil))) de_int) (dss_one (ds_set 1 (de_ix ix_2 s_ix (de_go h_law_net rm (gdX hgd) tk (da_cons (de_var 0) (da_cons de_int (da_cons (de_bin op_addA s_add de_int (de_go h_law_draw rm (gdX hgd) tk (da_cons (de_var 0) (da_cons de_int da_nil)))) (da_cons (de_go h_law_draw rm (gdX hgd) tk (da_cons (de_var 0) (da_cons de_int da_nil))) da_nil))))) de_int) nd)) (dss_one (ds_set 1 (de_ix ix_2 s_ix (de_go h_law_net rm (gdX hgd) tk (da_cons (de_var 0) (da_cons (de_bin op_addA s_add de_int (de_go h_law_draw rm (gdX hgd) tk (da_cons (de_var 0) (da_cons de_int da_nil)))) (da_cons (de_go h_law_draw rm (gdX hgd) tk (da_cons (de_var 0) (da_cons de_int da_nil))) (da_cons (de_go h_law_draw rm (gdX hgd) tk (da_cons (de_var 0) (da_cons de_int da_nil))) da_nil))))) de_int) nd)))
  (dss_cons (ds_set 2 (de_go h_law_bent rm (gdX hgd) tk (da_cons (de_var 0) (da_cons (de_var 1) da_nil))) nd)
  (dss_one (ds_ret (de_if (db_cmp (op_eqM (ru rm 64)) s_eq (de_go h_law_wrong rm (gdX hgd) tk (da_cons (de_var 2) da_nil)) (de_lst da_nil)) (de_var 2) (de_var 1))))))
/-! ### _law_turned -/
abbrev st_law_turned : Stmt := topS 48
theorem sc_law_turned : FnScope ["net", "at", "tube"] ["net", "at"] (defScope st_law_turned) := ⟨rfl, rfl, rfl, by decide +kernel, rfl, by decide +kernel, by decide +kernel⟩
def t_law_turned : ST := (mSeq (mSet 2 (mBin oIx (mBin oIx (mVar 0) (mK (.int 2))) (mVar 1)))
  (mRet (mTup (mCons (mBin oIx (mVar 0) (mK (.int 0))) (mCons (mBin oIx (mVar 0) (mK (.int 1))) (mCons (mBin oAdd (mBin oAdd (mSl (mBin oIx (mVar 0) (mK (.int 2))) pNo (pAt (mVar 1))) (mTup (mCons (mBin oAdd (mTup (mCons (mBin oIx (mVar 2) (mK (.int 1))) (mCons (mBin oIx (mVar 2) (mK (.int 0))) mNil))) (mSl (mVar 2) (pAt (mK (.int 2))) pNo)) mNil))) (mSl (mBin oIx (mVar 0) (mK (.int 2))) (pAt (mBin oAdd (mVar 1) (mK (.int 1)))) pNo)) mNil))))))
theorem has_law_turned {P : Program} {w : World} {K : PySem.W.Frag} {mg : Str → Option Value} {base : Heap} (bl : Blt mg) (D : DefT K mg "_law_turned" st_law_turned ["net", "at"] []) :
    Has P w K mg base 1 "_law_turned" ["net", "at"] [] (fnM 3 (t_law_turned)) := by
  have nd := sc_law_turned.nd
  refine D.has (k := 0) sc_law_turned fun f cdv A outer s H E rm hgd => ?_
  have tk : Takes (cxOf (L2.CX P w) P w K mg base ["net", "at", "tube"] "_law_turned" (defScope st_law_turned) f cdv A outer s H E) (fun c d _ H' => E c d H') := takes_of rfl rfl rfl rfl
  exact (dss_cons (ds_set 2 (de_ix ix_2 s_ix (de_ix ix_2 s_ix (de_var 0) de_int) (de_var 1)) nd)
  (dss_one (ds_ret (de_tup (da_cons (de_ix ix_2 s_ix (de_var 0) de_int) (da_cons (de_ix ix_2 s_ix (de_var 0) de_int) (da_cons (de_bin op_addA s_add (de_bin op_addA s_add (de_slice (de_ix ix_2 s_ix (de_var 0) de_int) dp_no (dp_at (de_var 1))) (de_tup (da_cons (de_bin op_addA s_add (de_tup (da_cons (de_ix ix_2 s_ix (de_var 2) de_int) (da_cons (de_ix ix_2 s_ix (de_var 2) de_int) da_nil))) (de_slice (de_var 2) (dp_at de_int) dp_no)) da_nil))) (de_slice (de_ix ix_2 s_ix (de_var 0) de_int) (dp_at (de_bin op_addA s_add (de_var 1) de_int)) dp_no)) da_nil)))))))
/-! ### _law_sides_right -/
abbrev st_law_sides_right : Stmt := topS 49
theorem sc_law_sides_right : FnScope ["net", "rests", "at", "base", "tube", "near", "far", "due"] ["net", "rests", "at"] (defScope st_law_sides_right) := ⟨rfl, rfl, rfl, by decide +kernel, rfl, by decide +kernel, by decide +kernel⟩
def t_law_sides_right (g_law_joined : FT) (g_law_total : FT) (g_residues : FT) (g_law_turned : FT) : ST := (mSeq (mPar2 3 4 (mCons (mBin oIx (mVar 0) (mK (.int 0))) (mCons (mBin oIx (mBin oIx (mVar 0) (mK (.int 2))) (mVar 2)) mNil)))
  (mSeq (mPar2 5 6 (mCons (mCall g_law_joined 3 (mCons (mVar 0) (mCons (mBin oIx (mVar 4) (mK (.int 0))) (mCons (mVar 2) mNil)))) (mCons (mCall g_law_joined 3 (mCons (mVar 0) (mCons (mBin oIx (mVar 4) (mK (.int 1))) (mCons (mVar 2) mNil)))) mNil)))
  (mSeq (mIfS (mT (mBin (oEq true) (mBin oRep (mLst (mCons (mBin oIx (mVar 1) (mVar 2)) mNil)) (mK (.int 2))) (mLst (mCons (mCall g_law_total 2 (mCons (mVar 0) (mCons (mVar 5) mNil))) (mCons (mBin oMod (mBin oSub (mK (.int 0)) (mCall g_law_total 2 (mCons (mVar 0) (mCons (mVar 6) mNil)))) (mVar 3)) mNil))))) (mRet (mK (.bl false))) mNext)
  (mSeq (mSet 7 (mBin oAdd (mBin oAdd (mSl (mVar 1) pNo (pAt (mVar 2))) (mTup (mCons (mBin oMod (mBin oSub (mK (.int 0)) (mBin oIx (mVar 1) (mVar 2))) (mVar 3)) mNil))) (mSl (mVar 1) (pAt (mBin oAdd (mVar 2) (mK (.int 1)))) pNo)))
  (mRet (mBin (oEqT false) (mFn oRepr (mCons (mCall g_residues 1 (mCons (mCall g_law_turned 2 (mCons (mVar 0) (mCons (mVar 2) mNil))) mNil)) mNil)) (mFn oRepr (mCons (mVar 7) mNil))))))))
theorem has_law_sides_right {P : Program} {w : World} {K : PySem.W.Frag} {mg : Str → Option Value} {base : Heap} {g_law_joined : FT} {g_law_total : FT} {g_residues : FT} {g_law_turned : FT} (bl : Blt mg) (D : DefT K mg "_law_sides_right" st_law_sides_right ["net", "rests", "at"] [])
    (k_law_joined : Has P w K mg base 2 "_law_joined" ["net", "at", "without"] [] g_law_joined)
    (k_law_total : Has P w K mg base 2 "_law_total" ["net", "spots"] [] g_law_total)
    (k_residues : Has P w K mg base 5 "residues" ["network"] [(["network"], [0])] g_residues)
    (k_law_turned : Has P w K mg base 1 "_law_turned" ["net", "at"] [] g_law_turned) :
    Has P w K mg base 6 "_law_sides_right" ["net", "rests", "at"] [] (fnM 8 (t_law_sides_right g_law_joined g_law_total g_residues g_law_turned)) := by
  have h_law_joined := k_law_joined.mono (show _ ≤ 5 by decide)
  have h_law_total := k_law_total.mono (show _ ≤ 5 by decide)
  have h_residues := k_residues.mono (show _ ≤ 5 by decide)
  have h_law_turned := k_law_turned.mono (show _ ≤ 5 by decide)
  have nd := sc_law_sides_right.nd
  refine D.has (k := 5) sc_law_sides_right fun f cdv A outer s H E rm hgd => ?_
  have tk : Takes (cxOf (L2.CX P w) P w K mg base ["net", "rests", "at", "base", "tube", "near", "far", "due"] "_law_sides_right" (defScope st_law_sides_right) f cdv A outer s H E) (fun c d _ H' => E c d H') := takes_of rfl rfl rfl rfl
  exact (dss_cons (ds_par2 3 4 rfl nd (da_cons (de_ix ix_2 s_ix (de_var 0) de_int) (da_cons (de_ix ix_2 s_ix (de_ix ix_2 s_ix (de_var 0) de_int) (de_var 2)) da_nil)))
  (dss_cons (ds_par2 5 6 rfl nd (da_cons (de_go h_law_joined rm (gdX hgd) tk (da_cons (de_var 0) (da_cons (de_ix ix_2 s_ix (de_var 4) de_int) (da_cons (de_var 2) da_nil)))) (da_cons (de_go h_law_joined rm (gdX hgd) tk (da_cons (de_var 0) (da_cons (de_ix ix_2 s_ix (de_var 4) de_int) (da_cons (de_var 2) da_nil)))) da_nil)))
  (dss_cons (ds_if (db_cmp (op_neM (ru rm 64)) s_eq (de_bin op_rep s_rep (de_lst (da_cons (de_ix ix_2 s_ix (de_var 1) (de_var 2)) da_nil)) de_int) (de_lst (da_cons (de_go h_law_total rm (gdX hgd) tk (da_cons (de_var 0) (da_cons (de_var 5) da_nil))) (da_cons (de_bin op_mod s_oI (de_bin op_subI s_oI de_int (de_go h_law_total rm (gdX hgd) tk (da_cons (de_var 0) (da_cons (de_var 6) da_nil)))) (de_var 3)) da_nil)))) (dss_one (ds_ret de_bl)) dss_nil)
  (dss_cons (ds_set 7 (de_bin op_addA s_add (de_bin op_addA s_add (de_slice (de_var 1) dp_no (dp_at (de_var 2))) (de_tup (da_cons (de_bin op_mod s_oI (de_bin op_subI s_oI de_int (de_ix ix_2 s_ix (de_var 1) (de_var 2))) (de_var 3)) da_nil))) (de_slice (de_var 1) (dp_at (de_bin op_addA s_add (de_var 2) de_int)) dp_no)) nd)
  (dss_one (ds_ret (de_cmp op_eq s_eqT (de_callB (call_repr (gdX hgd) (ru rm 80)) s_repr bl.repr bt_repr (da_cons (de_go h_residues rm (gdX hgd) tk (da_cons (de_go h_law_turned rm (gdX hgd) tk (da_cons (de_var 0) (da_cons (de_var 2) da_nil))) da_nil)) da_nil)) (de_callB (call_repr (gdX hgd) (ru rm 80)) s_repr bl.repr bt_repr (da_cons (de_var 7) da_nil)))))))))
/-! ### _law_is_even -/
abbrev st_law_is_even : Stmt := topS 50
theorem sc_law_is_even : FnScope ["net", "rests", "spots", "high", "at"] ["net", "rests", "spots"] (defScope st_law_is_even) := ⟨rfl, rfl, rfl, by decide +kernel, rfl, by decide +kernel, by decide +kernel⟩
def t_law_is_even (g_law_ins : FT) (g_law_outs : FT) : ST := (mSeq (mSet 3 (mFn oSum (mCons (mComp (iSeqM (mCall g_law_ins 2 (mCons (mVar 0) (mCons (mVar 2) mNil)))) (.nm 4) bYes (mBin oIx (mVar 1) (mVar 4)) [4]) mNil)))
  (mRet (mBin (oEq false) (mBin oMod (mBin oSub (mVar 3) (mFn oSum (mCons (mComp (iSeqM (mCall g_law_outs 2 (mCons (mVar 0) (mCons (mVar 2) mNil)))) (.nm 4) bYes (mBin oIx (mVar 1) (mVar 4)) [4]) mNil))) (mBin oIx (mVar 0) (mK (.int 0)))) (mK (.int 0)))))
theorem has_law_is_even {P : Program} {w : World} {K : PySem.W.Frag} {mg : Str → Option Value} {base : Heap} {g_law_ins : FT} {g_law_outs : FT} (bl : Blt mg) (D : DefT K mg "_law_is_even" st_law_is_even ["net", "rests", "spots"] [])
    (k_law_ins : Has P w K mg base 1 "_law_ins" ["net", "spots"] [] g_law_ins)
    (k_law_outs : Has P w K mg base 1 "_law_outs" ["net", "spots"] [] g_law_outs) :
    Has P w K mg base 2 "_law_is_even" ["net", "rests", "spots"] [] (fnM 5 (t_law_is_even g_law_ins g_law_outs)) := by
  have h_law_ins := k_law_ins.mono (show _ ≤ 1 by decide)
  have h_law_outs := k_law_outs.mono (show _ ≤ 1 by decide)
  have nd := sc_law_is_even.nd
  refine D.has (k := 1) sc_law_is_even fun f cdv A outer s H E rm hgd => ?_
  have tk : Takes (cxOf (L2.CX P w) P w K mg base ["net", "rests", "spots", "high", "at"] "_law_is_even" (defScope st_law_is_even) f cdv A outer s H E) (fun c d _ H' => E c d H') := takes_of rfl rfl rfl rfl
  exact (dss_cons (ds_set 3 (de_callB (cr_sum rfl) s_sum bl.sum bt_sum (da_cons (de_comp (own := [("at", 4)]) rfl nd (di_seq (de_go h_law_ins rm (gdX hgd) tk (da_cons (de_var 0) (da_cons (de_var 2) da_nil)))) (blkOk_by (by rfl)) (fun _ _ _ _ _ => (dt_nm 4 nd)) (fun _ _ _ _ _ => dts_yes) (fun _ _ _ _ _ => (de_ix ix_2 s_ix (de_var 1) (de_var 4)))) da_nil)) nd)
  (dss_one (ds_ret (de_cmp (op_eqM (ru rm 64)) s_eq (de_bin op_mod s_oI (de_bin op_subI s_oI (de_var 3) (de_callB (cr_sum rfl) s_sum bl.sum bt_sum (da_cons (de_comp (own := [("at", 4)]) rfl nd (di_seq (de_go h_law_outs rm (gdX hgd) tk (da_cons (de_var 0) (da_cons (de_var 2) da_nil)))) (blkOk_by (by rfl)) (fun _ _ _ _ _ => (dt_nm 4 nd)) (fun _ _ _ _ _ => dts_yes) (fun _ _ _ _ _ => (de_ix ix_2 s_ix (de_var 1) (de_var 4)))) da_nil))) (de_ix ix_2 s_ix (de_var 0) de_int)) de_int))))
/-! ### _law_right -/
abbrev st_law_right : Stmt := topS 51
theorem sc_law_right : FnScope ["m", "net", "rests", "wide", "at", "tube", "due", "pair", "some", "n", "spots"] ["m", "net"] (defScope st_law_right) := ⟨rfl, rfl, rfl, by decide +kernel, rfl, by decide +kernel, by decide +kernel⟩
def t_law_right_b1 (g_residues : FT) (g_law_is_wide : FT) (g_law_sides_right : FT) (g_open_pipes : FT) (g_law_shown : FT) (g_group_sums : FT) (g_law_draw : FT) (g_law_is_even : FT) : ST := (mExpr (mBM oAppend (mVar 8) (mCons (mFn oTuple (mCons (mComp (iRngM1 (mCons (mBin oIx (mVar 1) (mK (.int 1))) mNil)) (.nm 4) (mT (mBin (oEq false) (mCall g_law_draw 2 (mCons (mVar 0) (mCons (mK (.int 2)) mNil))) (mK (.int 0)))) (mVar 4) [4]) mNil)) mNil)))
def t_law_right (g_residues : FT) (g_law_is_wide : FT) (g_law_sides_right : FT) (g_open_pipes : FT) (g_law_shown : FT) (g_group_sums : FT) (g_law_draw : FT) (g_law_is_even : FT) : ST := (mSeq (mAsg (gtTp 2 (gtCons (gtNm 2) (gtCons (gtNm 3) gtNil))) (mTup (mCons (mCall g_residues 1 (mCons (mVar 1) mNil)) (mCons (mComp (mEnum (mCons (mBin oIx (mVar 1) (mK (.int 2))) mNil)) (.tp [(.nm 4), (.nm 5)]) (mT (mCall g_law_is_wide 1 (mCons (mVar 5) mNil))) (mVar 4) [4, 5]) mNil))))
  (mSeq (mIfS (bOr (bNot (mT (mIsi "tuple" (mVar 2)))) (mT (mBin (oEqT true) (mFn oRepr (mCons (mCallK g_residues [0] 1 1 (mCons (mVar 1) mNil)) mNil)) (mFn oRepr (mCons (mVar 2) mNil))))) (mRet (mK (.bl false))) mNext)
  (mSeq (mIfS (bOr (mT (mBin (oEq true) (mComp (iSeqM (mVar 3)) (.nm 4) (bNot (mT (mCall g_law_sides_right 3 (mCons (mVar 1) (mCons (mVar 2) (mCons (mVar 4) mNil)))))) (mVar 4) [4]) (mLst mNil))) (mT (mBin (oEq true) (mCall g_open_pipes 1 (mCons (mVar 1) mNil)) (mFn oTuple (mCons (mVar 3) mNil))))) (mRet (mK (.bl false))) mNext)
  (mSeq (mSet 6 (mComp (mEnum (mCons (mBin oIx (mVar 1) (mK (.int 2))) mNil)) (.tp [(.nm 4), (.nm 5)]) bYes (mIf (mT (mBin (oIn false) (mVar 4) (mVar 3))) (mBin oIx (mVar 2) (mVar 4)) (mCall g_law_shown 2 (mCons (mVar 1) (mCons (mVar 5) mNil)))) [4, 5]))
  (mSeq (mIfS (bOr (mT (mBin (oEqT true) (mFn oRepr (mCons (mFn oList (mCons (mVar 2) mNil)) mNil)) (mFn oRepr (mCons (mVar 6) mNil)))) (mT (mBin (oEq true) (mComp (iSeqM (mCall g_group_sums 1 (mCons (mVar 1) mNil))) (.nm 7) (mT (mBin (oEq true) (mBin oIx (mVar 7) (mK (.int 1))) (mK (.int 0)))) (mVar 7) [7]) (mLst mNil)))) (mRet (mK (.bl false))) mNext)
  (mSeq (mSet 8 (mCompN (iRngM1 (mCons (mBin oIx (mVar 1) (mK (.int 1))) mNil)) (.nm 4) bYes (mTup (mCons (mVar 4) mNil)) [4]))
  (mSeq (mFor (iRngM1 (mCons (mK (.int 8)) mNil)) (.nm 9) (t_law_right_b1 g_residues g_law_is_wide g_law_sides_right g_open_pipes g_law_shown g_group_sums g_law_draw g_law_is_even))
  (mRet (mBin (oEq false) (mComp (iSeqM (mVar 8)) (.nm 10) (bNot (mT (mCall g_law_is_even 3 (mCons (mVar 1) (mCons (mVar 2) (mCons (mVar 10) mNil)))))) (mVar 10) [10]) (mLst mNil))))))))))
theorem has_law_right {P : Program} {w : World} {K : PySem.W.Frag} {mg : Str → Option Value} {base : Heap} {g_residues : FT} {g_law_is_wide : FT} {g_law_sides_right : FT} {g_open_pipes : FT} {g_law_shown : FT} {g_group_sums : FT} {g_law_draw : FT} {g_law_is_even : FT} (bl : Blt mg) (D : DefT K mg "_law_right" st_law_right ["m", "net"] [])
    (k_residues : Has P w K mg base 5 "residues" ["network"] [(["network"], [0])] g_residues)
    (k_law_is_wide : Has P w K mg base 1 "_law_is_wide" ["tube"] [] g_law_is_wide)
    (k_law_sides_right : Has P w K mg base 6 "_law_sides_right" ["net", "rests", "at"] [] g_law_sides_right)
    (k_open_pipes : Has P w K mg base 5 "open_pipes" ["network"] [] g_open_pipes)
    (k_law_shown : Has P w K mg base 1 "_law_shown" ["net", "tube"] [] g_law_shown)
    (k_group_sums : Has P w K mg base 5 "group_sums" ["network"] [] g_group_sums)
    (k_law_draw : Has P w K mg base 2 "_law_draw" ["m", "top"] [] g_law_draw)
    (k_law_is_even : Has P w K mg base 2 "_law_is_even" ["net", "rests", "spots"] [] g_law_is_even) :
    Has P w K mg base 7 "_law_right" ["m", "net"] [] (fnM 11 (t_law_right g_residues g_law_is_wide g_law_sides_right g_open_pipes g_law_shown g_group_sums g_law_draw g_law_is_even)) := by
  have h_residues := k_residues.mono (show _ ≤ 6 by decide)
  have h_law_is_wide := k_law_is_wide.mono (show _ ≤ 6 by decide)
  have h_law_sides_right := k_law_sides_right.mono (show _ ≤ 6 by decide)
  have h_open_pipes := k_open_pipes.mono (show _ ≤ 6 by decide)
  have h_law_shown := k_law_shown.mono (show _ ≤ 6 by decide)
  have h_group_sums := k_group_sums.mono (show _ ≤ 6 by decide)
  have h_law_draw := k_law_draw.mono (show _ ≤ 6 by decide)
  have h_law_is_even := k_law_is_even.mono (show _ ≤ 6 by decide)
  have nd := sc_law_right.nd
  refine D.has (k := 6) sc_law_right fun f cdv A outer s H E rm hgd => ?_
  have tk : Takes (cxOf (L2.CX P w) P w K mg base ["m", "net", "rests", "wide", "at", "tube", "due", "pair", "some", "n", "spots"] "_law_right" (defScope st_law_right) f cdv A outer s H E) (fun c d _ H' => E c d H') := takes_of rfl rfl rfl rfl
  have ps : PassesOwn (model P w) (cxOf (L2.CX P w) P w K mg base ["m", "net", "rests", "wide", "at", "tube", "due", "pair", "some", "n", "spots"] "_law_right" (defScope st_law_right) f cdv A outer s H E).A (cxOf (L2.CX P w) P w K mg base ["m", "net", "rests", "wide", "at", "tube", "due", "pair", "some", "n", "spots"] "_law_right" (defScope st_law_right) f cdv A outer s H E).env (cxOf (L2.CX P w) P w K mg base ["m", "net", "rests", "wide", "at", "tube", "due", "pair", "some", "n", "spots"] "_law_right" (defScope st_law_right) f cdv A outer s H E).xe := passes_of rfl
  exact (dss_cons (ds_asg (de_tup (da_cons (de_go h_residues rm (gdX hgd) tk (da_cons (de_var 1) da_nil)) (da_cons (de_comp (own := [("at", 4), ("tube", 5)]) rfl nd (di_enum bl.enumerate (da_cons (de_ix ix_2 s_ix (de_var 1) de_int) da_nil)) (blkOk_by (by rfl)) (fun _ _ _ _ _ => (dt_tp rfl (dts_cons (dt_nm 4 nd) (dts_cons (dt_nm 5 nd) dts_nil)))) (fun _ _ _ _ _ => (dts_one (db_val (de_go h_law_is_wide rm (gdX hgd) tk0 (da_cons (de_var 5) da_nil))))) (fun _ _ _ _ _ => (de_var 4))) da_nil))) (dg_tp rfl (dgs_cons (dg_nm 2 nd) (dgs_cons (dg_nm 3 nd) dgs_nil))))
  (dss_cons (ds_if (dw_db (dw_or (db_not (db_val (de_isi "tuple" bl.isinstance bl.tuple (de_var 2)))) (dw_or1 (db_cmp op_ne s_neT (de_callB (call_repr (gdX hgd) (ru rm 80)) s_repr bl.repr bt_repr (da_cons (de_goK (ks := ["network"]) [0] h_residues rm (gdX hgd) tk (dk_cons (de_var 1) dk_nil)) da_nil)) (de_callB (call_repr (gdX hgd) (ru rm 80)) s_repr bl.repr bt_repr (da_cons (de_var 2) da_nil)))))) (dss_one (ds_ret de_bl)) dss_nil)
  (dss_cons (ds_if (dw_db (dw_or (db_cmp (op_neM (ru rm 64)) s_eq (de_comp (own := [("at", 4)]) rfl nd (di_seq (de_var 3)) (blkOk_by (by rfl)) (fun _ _ _ _ _ => (dt_nm 4 nd)) (fun _ _ _ _ _ => (dts_one (db_not (db_val (de_go h_law_sides_right rm (gdX hgd) tk0 (da_cons (de_var 1) (da_cons (de_var 2) (da_cons (de_var 4) da_nil)))))))) (fun _ _ _ _ _ => (de_var 4))) (de_lst da_nil)) (dw_or1 (db_cmp (op_neM (ru rm 64)) s_eq (de_go h_open_pipes rm (gdX hgd) tk (da_cons (de_var 1) da_nil)) (de_callTy call_tupleM s_tuple bl.tuple bt_tuple (da_cons (de_var 3) da_nil)))))) (dss_one (ds_ret de_bl)) dss_nil)
  (dss_cons (ds_setLc (own := [("at", 4), ("tube", 5)]) 6 rfl nd rfl rfl rfl (di_enum bl.enumerate (da_cons (de_ix ix_2 s_ix (de_var 1) de_int) da_nil)) (blkOk_by (by rfl)) (fun _ _ _ _ _ => (dt_tp rfl (dts_cons (dt_nm 4 nd) (dts_cons (dt_nm 5 nd) dts_nil)))) (fun _ _ _ _ _ => dts_yes) (fun _ _ _ _ _ => (de_if (db_cmp (op_inM (ru rm 65)) s_in (de_var 4) (de_var 3)) (de_ix ix_2 s_ix (de_var 2) (de_var 4)) (de_go h_law_shown rm (gdX hgd) tk0 (da_cons (de_var 1) (da_cons (de_var 5) da_nil))))))
  (dss_cons (ds_if (dw_db (dw_or (db_cmp op_ne s_neT (de_callB (call_repr (gdX hgd) (ru rm 80)) s_repr bl.repr bt_repr (da_cons (de_callTy call_listM s_list bl.list bt_list (da_cons (de_var 2) da_nil)) da_nil)) (de_callB (call_repr (gdX hgd) (ru rm 80)) s_repr bl.repr bt_repr (da_cons (de_var 6) da_nil))) (dw_or1 (db_cmp (op_neM (ru rm 64)) s_eq (de_comp (own := [("pair", 7)]) rfl nd (di_seq (de_go h_group_sums rm (gdX hgd) tk (da_cons (de_var 1) da_nil))) (blkOk_by (by rfl)) (fun _ _ _ _ _ => (dt_nm 7 nd)) (fun _ _ _ _ _ => (dts_one (db_cmp (op_neM (ru rm 64)) s_eq (de_ix ix_2 s_ix (de_var 7) de_int) de_int))) (fun _ _ _ _ _ => (de_var 7))) (de_lst da_nil))))) (dss_one (ds_ret de_bl)) dss_nil)
  (dss_cons (ds_setLcN (own := [("at", 4)]) 8 rfl nd rfl rfl rfl (di_range1 bl.range (da_cons (de_ix ix_2 s_ix (de_var 1) de_int) da_nil)) (blkOk_by (by rfl)) (fun _ _ _ _ _ => (dt_nm 4 nd)) (fun _ _ _ _ _ => dts_yes) (fun _ _ _ _ _ => (de_tup (da_cons (de_var 4) da_nil))))
  (dss_cons (ds_for ps rfl (di_range1 bl.range (da_cons de_int da_nil)) (dt_nm 9 nd) (dss_one (ds_expr (de_bmL PySem.F.slot_list_append PySem.F.type_list_append mt_append s_append (de_var 8) (da_cons (de_callTy call_tupleM s_tuple bl.tuple bt_tuple (da_cons (de_comp (own := [("at", 4)]) rfl nd (di_range1 bl.range (da_cons (de_ix ix_2 s_ix (de_var 1) de_int) da_nil)) (blkOk_by (by rfl)) (fun _ _ _ _ _ => (dt_nm 4 nd)) (fun _ _ _ _ _ => (dts_one (db_cmp (op_eqM (ru rm 64)) s_eq (de_go h_law_draw rm (gdX hgd) tk0 (da_cons (de_var 0) (da_cons de_int da_nil))) de_int))) (fun _ _ _ _ _ => (de_var 4))) da_nil)) da_nil)))))
  (dss_one (ds_ret (de_cmp (op_eqM (ru rm 64)) s_eq (de_comp (own := [("spots", 10)]) rfl nd (di_seq (de_var 8)) (blkOk_by (by rfl)) (fun _ _ _ _ _ => (dt_nm 10 nd)) (fun _ _ _ _ _ => (dts_one (db_not (db_val (de_go h_law_is_even rm (gdX hgd) tk0 (da_cons (de_var 1) (da_cons (de_var 2) (da_cons (de_var 10) da_nil)))))))) (fun _ _ _ _ _ => (de_var 10))) (de_lst da_nil)))))))))))
/-! ### law -/
abbrev st_law : Stmt := topS 52
theorem sc_law : FnScope ["script", "m", "again"] ["script"] (defScope st_law) := ⟨rfl, rfl, rfl, by decide +kernel, rfl, by decide +kernel, by decide +kernel⟩
def t_law_b1 (g_law_begun : FT) (g_law_right : FT) (g_law_sized_net : FT) : ST := (mIfS (bNot (mT (mCall g_law_right 2 (mCons (mVar 1) (mCons (mCall g_law_sized_net 1 (mCons (mVar 1) mNil)) mNil))))) (mRet (mK (.bl false))) mNext)
def t_law (g_law_begun : FT) (g_law_right : FT) (g_law_sized_net : FT) : ST := (mSeq (mSet 1 (mCall g_law_begun 1 (mCons (mVar 0) mNil)))
  (mSeq (mFor (iRngM1 (mCons (mBin oAdd (mK (.int 2)) (mFn oMin (mCons (mK (.int 4)) (mCons (mBin oDiv (mFn oLen (mCons (mVar 0) mNil)) (mK (.int 5))) mNil)))) mNil)) (.nm 2) (t_law_b1 g_law_begun g_law_right g_law_sized_net))
  (mRet (mK (.bl true)))))
theorem has_law {P : Program} {w : World} {K : PySem.W.Frag} {mg : Str → Option Value} {base : Heap} {g_law_begun : FT} {g_law_right : FT} {g_law_sized_net : FT} (bl : Blt mg) (D : DefT K mg "law" st_law ["script"] [])
    (k_law_begun : Has P w K mg base 2 "_law_begun" ["script"] [] g_law_begun)
    (k_law_right : Has P w K mg base 7 "_law_right" ["m", "net"] [] g_law_right)
    (k_law_sized_net : Has P w K mg base 6 "_law_sized_net" ["m"] [] g_law_sized_net) :
    Has P w K mg base 8 "law" ["script"] [] (fnM 3 (t_law g_law_begun g_law_right g_law_sized_net)) := by
  have h_law_begun := k_law_begun.mono (show _ ≤ 7 by decide)
  have h_law_right := k_law_right.mono (show _ ≤ 7 by decide)
  have h_law_sized_net := k_law_sized_net.mono (show _ ≤ 7 by decide)
  have nd := sc_law.nd
  refine D.has (k := 7) sc_law fun f cdv A outer s H E rm hgd => ?_
  have tk : Takes (cxOf (L2.CX P w) P w K mg base ["script", "m", "again"] "law" (defScope st_law) f cdv A outer s H E) (fun c d _ H' => E c d H') := takes_of rfl rfl rfl rfl
  have ps : PassesOwn (model P w) (cxOf (L2.CX P w) P w K mg base ["script", "m", "again"] "law" (defScope st_law) f cdv A outer s H E).A (cxOf (L2.CX P w) P w K mg base ["script", "m", "again"] "law" (defScope st_law) f cdv A outer s H E).env (cxOf (L2.CX P w) P w K mg base ["script", "m", "again"] "law" (defScope st_law) f cdv A outer s H E).xe := passes_of rfl
  exact (dss_cons (ds_set 1 (de_go h_law_begun rm (gdX hgd) tk (da_cons (de_var 0) da_nil)) nd)
  (dss_cons (ds_for ps rfl (di_range1 bl.range (da_cons (de_bin op_addA s_add de_int (de_callB (call_minM rfl) s_min bl.min bt_min (da_cons de_int (da_cons (de_bin op_fdivW s_oI (de_callB call_lenM s_len bl.len bt_len (da_cons (de_var 0) da_nil)) de_int) da_nil)))) da_nil)) (dt_nm 2 nd) (dss_one (ds_if (db_not (db_val (de_go h_law_right rm (gdX hgd) tk (da_cons (de_var 1) (da_cons (de_go h_law_sized_net rm (gdX hgd) tk (da_cons (de_var 1) da_nil)) da_nil))))) (dss_one (ds_ret de_bl)) dss_nil)))
  (dss_one (ds_ret de_bl))))
end Fw

set_option maxRecDepth 100000
set_option maxHeartbeats 4000000
namespace Fw
open PySem PySem.Spec PyProof.Rows L2

/-! ## is_integer, is_between, is_pipe -/
def isIntW : W → Bool
  | .int _ => true
  | _ => false
def inB (w : W) (lo hi : Int) : Bool := match w with
  | .int v => decide (lo ≤ v) && decide (v ≤ hi)
  | _ => false
def HasTy (w : W) (s : S) : Prop := (tyNm w s).isSome = true
theorem ty_int {w : W} {s : S} {t : String} (h : tyNm w s = some t) : (t == "int") = isIntW w := by
  cases w with
  | ref n =>
    simp only [tyNm] at h
    split at h <;> first | (cases h; rfl) | cases h
  | scr _ => cases h
  | _ => cases h; rfl
def sp_is_integer : FT := fun ws s q _ => match ws with
  | [w] => HasTy w s ∧ q (.bl (isIntW w)) s
  | _ => False
theorem ok_is_integer : ∀ ws s q e, sp_is_integer ws s q e → fnM 1 t_is_integer ws s q e := by
  intro ws s q e h
  unfold sp_is_integer at h
  split at h
  · rename_i w
    obtain ⟨h1, h2⟩ := h
    obtain ⟨t, ht⟩ := Option.isSome_iff_exists.mp h1
    rw [← ty_int ht] at h2
    have hb := ty_basic ht
    simp only [fnM, t_is_integer, mRet, mAnd, mIsi, mNot, mVar, List.map_cons, List.map_nil, List.getElem?_cons_zero, List.cons_append, ht]
    simp only [basicT, List.mem_cons, List.not_mem_nil, or_false] at hb
    rcases hb with rfl | rfl | rfl | rfl | rfl | rfl | rfl <;> exact h2
  · exact h.elim
def sp_is_between : FT := fun ws s q _ => match ws with
  | [w, .int lo, .int hi] => HasTy w s ∧ q (.bl (inB w lo hi)) s
  | _ => False
theorem ok_is_between : ∀ ws s q e, sp_is_between ws s q e → fnM 3 (t_is_between sp_is_integer) ws s q e := by
  intro ws s q e h
  unfold sp_is_between at h
  split at h
  · rename_i w lo hi
    obtain ⟨h1, h2⟩ := h
    refine ⟨rfl, h1, ?_⟩
    cases w with
    | int v =>
      simp only [inB] at h2
      by_cases h3 : lo ≤ v
      · simp only [h3, decide_true, Bool.true_and] at h2
        exact (by simpa [isIntW, mChain, mVar, oB, h3] using h2)
      · simp only [h3, decide_false, Bool.false_and] at h2
        exact (by simpa [isIntW, mChain, mVar, oB, h3] using h2)
    | _ => exact h2
  · exact h.elim
end Fw

set_option maxRecDepth 100000
set_option maxHeartbeats 4000000
namespace Fw
open PySem PySem.Spec PyProof.Rows L2

/-! ## comprehensions without a side effect -/
theorem compL_map {α : Type} {g : Tgt} {tt : BT} {te : ET} {r : Lv} {l : Live} {s : S} {q : List W → S → Prop} (f : α → W) (F : α → Option W) : ∀ (as : List α) (acc : List W),
    (∀ a ∈ as, ∃ r1, asg g (f a) r s = some r1 ∧ (∀ (k : Bool → S → Prop) e, k (F a).isSome s → tt r1 s k e) ∧ ∀ y, F a = some y → ∀ (k : QW) e, k y s → te r1 s k e) →
    acc.length + as.length ≤ sizeLine → okL l s → q (acc ++ as.filterMap F) s → compL g tt te r l (as.map f) acc s q
  | [], acc, _, _, hk, hq => ⟨hk, by simpa using hq⟩
  | a :: as, acc, h, hl, hk, hq => by
    obtain ⟨r1, h1, h2, h3⟩ := h a (by simp)
    refine ⟨hk, ?_⟩
    simp only [h1]
    refine h2 _ _ ?_
    cases e : F a with
    | none =>
      simp only [Option.isSome_none, Bool.false_eq_true, if_false]
      refine compL_map f F as acc (fun b hb => h b (by simp [hb])) (by simp at hl; omega) hk ?_
      rwa [List.filterMap_cons_none e] at hq
    | some y =>
      simp only [Option.isSome_some, if_true]
      refine h3 y e _ _ ⟨by simp at hl; omega, ?_⟩
      refine compL_map f F as (acc ++ [y]) (fun b hb => h b (by simp [hb])) (by simp at hl ⊢; omega) hk ?_
      rw [List.filterMap_cons_some e] at hq
      simpa using hq
theorem enum_map {α : Type} (f : α → W) (as : List α) : enumW (as.map f) = as.zipIdx.map fun a => .tup [.int (a.2 : Int), f a.1] := by
  unfold enumW
  apply List.ext_getElem
  · simp
  · intro i h1 h2
    simp
theorem rangeW_map (n : Nat) : rangeW 0 n = (List.range n).map fun (i : Nat) => W.int (i : Int) := by
  unfold rangeW
  simp

/-- a slice -/
def slW (w : W) (a b : Option Int) (s : S) (q : QW) : Prop := match w with
  | .tup xs => q (.tup (cutW xs a b)) s
  | w => match lstOf w s with
    | some xs => q (.lst (cutW xs a b)) s
    | none => False
theorem mSl_eq {te : ET} {lo hi : PT'} {r : Lv} {s : S} {q : QW} {e : QX} : mSl te lo hi r s q e = te r s (fun w s1 => lo r s1 (fun a s2 => hi r s2 (fun b s3 => slW w a b s3 q) e) e) e := propext ⟨fun h => h, fun h => h⟩
theorem slW_tup {xs : List W} {a b : Option Int} {s : S} {q : QW} : slW (.tup xs) a b s q = q (.tup (cutW xs a b)) s := propext ⟨fun h => h, fun h => h⟩
theorem slW_lst {xs : List W} {a b : Option Int} {s : S} {q : QW} : slW (.lst xs) a b s q = q (.lst (cutW xs a b)) s := propext ⟨fun h => h, fun h => h⟩

/-! ## networks -/
structure Pipe where
  s : Nat
  t : Nat
  lo : Int
  hi : Int
  me : Option Int
structure Net where
  b : Int
  n : Nat
  ps : List Pipe
def mW : Option Int → W
  | none => .non
  | some i => .int i
def pW (p : Pipe) : W := .tup [.int p.s, .int p.t, .int p.lo, .int p.hi, mW p.me]
def netW (N : Net) : W := .tup [.int N.b, .int N.n, .tup (N.ps.map pW)]
def Pipe.op (p : Pipe) : Bool := p.me.isNone && decide (p.lo < p.hi)
def Net.ops (N : Net) : List Pipe := N.ps.filter Pipe.op
def isPipeW (w : W) (md pl : Int) : Bool := match w with
  | .tup [a, b, c, d, e] => inB a 0 (pl - 1) && inB b 0 (pl - 1) && (match a, b with | .int i, .int j => decide (i ≠ j) | _, _ => false) && inB d 0 1000000000000 && (match d with | .int h => inB c 0 h | _ => false) && (isNonW e || inB e 0 (md - 1))
  | _ => false
def PartsTy (w : W) (s : S) : Prop := HasTy w s ∧ ∀ xs, w = .tup xs → ∀ x ∈ xs, HasTy x s
end Fw

set_option maxRecDepth 100000
set_option maxHeartbeats 4000000
namespace Fw
open PySem PySem.Spec PyProof.Rows L2
theorem eq_int {s : S} {q : QW} {i j : Int} {neg : Bool} : oEq neg (.int i) (.int j) s q = q (.bl (neg != decide (i = j))) s := by
  have h : PyData.eqv (.int i) (.int j) = decide (i = j) := by
    simp [PyData.eqv]
    rw [Bool.eq_iff_iff]; simp
  show ((true && true) = true ∧ q (.bl (neg != PyData.eqv (.int i) (.int j))) s) = _
  rw [h]
  simp
def sp_is_pipe : FT := fun ws s q _ => match ws with
  | [w, .int md, .int pl] => PartsTy w s ∧ q (.bl (isPipeW w md pl)) s
  | _ => False
theorem inB_int {w : W} {lo hi : Int} (h : inB w lo hi = true) : ∃ v, w = .int v ∧ lo ≤ v ∧ v ≤ hi := by
  cases w with
  | int v => simp [inB] at h; exact ⟨v, rfl, h.1, h.2⟩
  | _ => simp [inB] at h
theorem ok_is_pipe : ∀ ws s q e, sp_is_pipe ws s q e → fnM 8 (t_is_pipe sp_is_between) ws s q e := by
  intro ws s q e h
  unfold sp_is_pipe at h
  split at h
  · rename_i w md pl
    obtain ⟨⟨h1, h2⟩, h3⟩ := h
    by_cases ht : ∃ xs, w = .tup xs
    · obtain ⟨xs, rfl⟩ := ht
      have hlen : (fun r : Prop => r) (xs.length = 5 ∨ xs.length ≠ 5) := by by_cases h : xs.length = 5; exact .inl h; exact .inr h
      rcases hlen with h5 | h5
      · match xs, h5 with
        | [a, b, c, d, e'], _ =>
          have ha : HasTy a s := h2 _ rfl a (by simp)
          have hb : HasTy b s := h2 _ rfl b (by simp)
          have hc : HasTy c s := h2 _ rfl c (by simp)
          have hd : HasTy d s := h2 _ rfl d (by simp)
          have he : HasTy e' s := h2 _ rfl e' (by simp)
          simp only [isPipeW] at h3
          simp only [↓u_fnM, ↓u_mSeq, ↓u_mIfS, ↓u_mRet, ↓u_mRetN, ↓u_mSet, ↓u_mExpr, ↓u_mVar, ↓u_mK, ↓u_mBin, ↓u_mUn, ↓u_mChain, ↓u_mT, ↓u_mAnd, ↓u_mOr, ↓u_mNot, ↓u_bAnd, ↓u_bOr, ↓u_bNot, ↓u_mIf, ↓u_mFn, ↓u_mTup, ↓u_mLst, ↓u_mNew, ↓u_mCons, ↓u_mNil, ↓u_mCall, ↓u_mNext, ↓u_mAsg, ↓u_mFor, ↓u_mComp, ↓u_mCompN, ↓u_iSeqM, ↓u_mEnum, ↓u_mZip, ↓u_mPar2, ↓u_mPar3, ↓u_mPut, ↓u_mAug, ↓u_mAugS, ↓u_mBM, ↓u_mBM0, ↓u_mCallK, ↓u_mListRg, ↓u_mListRgN, ↓u_mTupRg, ↓u_mRg1, ↓u_mRg2, ↓u_iRngM1, ↓u_iRngM2, ↓u_pAt, ↓u_pNo, ↓u_mIsi, ↓u_mNever, ↓u_gtTp, ↓u_gtCons, ↓u_gtNil, ↓u_gtNm, ↓u_gtSub, ↓u_mBreak, ↓u_mCont, ↓u_mDisp, ↓u_bYes, ↓u_oI, ↓u_oB, ↓u_oIs, ↓u_oEqT, ↓u_seqT, ↓u_seqL, ↓u_seqS, ↓mSl_eq, slW_tup, slW_lst, List.map_cons, List.map_nil, List.length_cons, List.length_nil, List.cons_append, List.nil_append, List.getElem?_cons_zero, List.getElem?_cons_succ, List.set_cons_zero, List.set_cons_succ, List.replicate, Nat.reduceAdd, Nat.reduceSub, Nat.zero_add, if_true, Bool.false_eq_true, if_false, Bool.true_eq_false, reduceIte, itemsOf, isNonW, t_is_pipe, tyNm, isTy, oLen, lenOf, Option.map_some, eq_int, sp_is_between]
          rw [if_neg (by decide), if_neg (by decide)]
          refine ⟨trivial, trivial, trivial, trivial, ha, ?_⟩
          cases hA : inB a 0 (pl - 1) with
          | false => simpa [hA] using h3
          | true =>
            simp only [hA, Bool.not_true, Bool.false_eq_true, if_false]
            refine ⟨trivial, trivial, hb, ?_⟩
            cases hB : inB b 0 (pl - 1) with
            | false => simpa [hA, hB] using h3
            | true =>
              simp only [hB, Bool.not_true, Bool.false_eq_true, if_false]
              obtain ⟨i, rfl, _, _⟩ := inB_int hA
              obtain ⟨j, rfl, _, _⟩ := inB_int hB
              rw [eq_int]
              simp only [Bool.false_bne]
              by_cases hij : i = j
              · simpa [hA, hB, hij] using h3
              · simp only [hij, decide_false, Bool.false_eq_true, if_false]
                refine ⟨trivial, hd, ?_⟩
                cases hD : inB d 0 1000000000000 with
                | false => simpa [hA, hB, hD, hij] using h3
                | true =>
                  simp only [hD, Bool.not_true, Bool.false_eq_true, if_false]
                  obtain ⟨k, rfl, _, _⟩ := inB_int hD
                  refine ⟨trivial, hc, ?_⟩
                  cases hC : inB c 0 k with
                  | false => simpa [hA, hB, hC, hD, hij] using h3
                  | true =>
                    simp only [hC, Bool.not_true, Bool.false_eq_true, if_false]
                    cases e' with
                    | non => simpa [hA, hB, hC, hD, hij, isNonW] using h3
                    | _ =>
                      simp only [Bool.false_bne, Bool.false_eq_true, if_false]
                      refine ⟨trivial, trivial, he, ?_⟩
                      simpa [hA, hB, hC, hD, hij, isNonW] using h3
      · have hw : isPipeW (.tup xs) md pl = false := by
          unfold isPipeW
          split
          · rename_i h; cases h; simp at h5
          · rfl
        rw [hw] at h3
        simp only [↓u_fnM, ↓u_mSeq, ↓u_mIfS, ↓u_mRet, ↓u_mRetN, ↓u_mSet, ↓u_mExpr, ↓u_mVar, ↓u_mK, ↓u_mBin, ↓u_mUn, ↓u_mChain, ↓u_mT, ↓u_mAnd, ↓u_mOr, ↓u_mNot, ↓u_bAnd, ↓u_bOr, ↓u_bNot, ↓u_mIf, ↓u_mFn, ↓u_mTup, ↓u_mLst, ↓u_mNew, ↓u_mCons, ↓u_mNil, ↓u_mCall, ↓u_mNext, ↓u_mAsg, ↓u_mFor, ↓u_mComp, ↓u_mCompN, ↓u_iSeqM, ↓u_mEnum, ↓u_mZip, ↓u_mPar2, ↓u_mPar3, ↓u_mPut, ↓u_mAug, ↓u_mAugS, ↓u_mBM, ↓u_mBM0, ↓u_mCallK, ↓u_mListRg, ↓u_mListRgN, ↓u_mTupRg, ↓u_mRg1, ↓u_mRg2, ↓u_iRngM1, ↓u_iRngM2, ↓u_pAt, ↓u_pNo, ↓u_mIsi, ↓u_mNever, ↓u_gtTp, ↓u_gtCons, ↓u_gtNil, ↓u_gtNm, ↓u_gtSub, ↓u_mBreak, ↓u_mCont, ↓u_mDisp, ↓u_bYes, ↓u_oI, ↓u_oB, ↓u_oIs, ↓u_oEqT, ↓u_seqT, ↓u_seqL, ↓u_seqS, ↓mSl_eq, slW_tup, slW_lst, List.map_cons, List.map_nil, List.length_cons, List.length_nil, List.cons_append, List.nil_append, List.getElem?_cons_zero, List.getElem?_cons_succ, List.set_cons_zero, List.set_cons_succ, List.replicate, Nat.reduceAdd, Nat.reduceSub, Nat.zero_add, if_true, Bool.false_eq_true, if_false, Bool.true_eq_false, reduceIte, itemsOf, isNonW, t_is_pipe, tyNm, isTy, oLen, lenOf, Option.map_some, eq_int]
        rw [if_neg (by decide), if_pos (by simp; omega)]
        exact h3
    · have hw : isPipeW w md pl = false := by
        unfold isPipeW
        split
        · exact absurd ⟨_, rfl⟩ ht
        · rfl
      rw [hw] at h3
      obtain ⟨t, hty⟩ := Option.isSome_iff_exists.mp h1
      have htt : isTy t "tuple" = false := by
        cases w with
        | tup xs => exact absurd ⟨_, rfl⟩ ht
        | ref n =>
          simp only [tyNm] at hty
          split at hty <;> first | (cases hty; rfl) | cases hty
        | scr _ => cases hty
        | _ => cases hty; rfl
      simp only [↓u_fnM, ↓u_mSeq, ↓u_mIfS, ↓u_mRet, ↓u_mRetN, ↓u_mSet, ↓u_mExpr, ↓u_mVar, ↓u_mK, ↓u_mBin, ↓u_mUn, ↓u_mChain, ↓u_mT, ↓u_mAnd, ↓u_mOr, ↓u_mNot, ↓u_bAnd, ↓u_bOr, ↓u_bNot, ↓u_mIf, ↓u_mFn, ↓u_mTup, ↓u_mLst, ↓u_mNew, ↓u_mCons, ↓u_mNil, ↓u_mCall, ↓u_mNext, ↓u_mAsg, ↓u_mFor, ↓u_mComp, ↓u_mCompN, ↓u_iSeqM, ↓u_mEnum, ↓u_mZip, ↓u_mPar2, ↓u_mPar3, ↓u_mPut, ↓u_mAug, ↓u_mAugS, ↓u_mBM, ↓u_mBM0, ↓u_mCallK, ↓u_mListRg, ↓u_mListRgN, ↓u_mTupRg, ↓u_mRg1, ↓u_mRg2, ↓u_iRngM1, ↓u_iRngM2, ↓u_pAt, ↓u_pNo, ↓u_mIsi, ↓u_mNever, ↓u_gtTp, ↓u_gtCons, ↓u_gtNil, ↓u_gtNm, ↓u_gtSub, ↓u_mBreak, ↓u_mCont, ↓u_mDisp, ↓u_bYes, ↓u_oI, ↓u_oB, ↓u_oIs, ↓u_oEqT, ↓u_seqT, ↓u_seqL, ↓u_seqS, ↓mSl_eq, slW_tup, slW_lst, List.map_cons, List.map_nil, List.length_cons, List.length_nil, List.cons_append, List.nil_append, List.getElem?_cons_zero, List.getElem?_cons_succ, List.set_cons_zero, List.set_cons_succ, List.replicate, Nat.reduceAdd, Nat.reduceSub, Nat.zero_add, if_true, Bool.false_eq_true, if_false, Bool.true_eq_false, reduceIte, itemsOf, isNonW, t_is_pipe, hty, htt]
      exact h3
  · exact h.elim
end Fw

set_option maxRecDepth 100000
set_option maxHeartbeats 4000000
namespace Fw
open PySem PySem.Spec PyProof.Rows L2

/-! ## numbers in a row -/
abbrev nW (ns : List Nat) : List W := ns.map fun (i : Nat) => W.int (i : Int)
theorem dats_nats (f : Nat → Option PyData) : ∀ ns : List Nat, dats f (nW ns) = some (ns.map fun (i : Nat) => PyData.int (i : Int))
  | [] => rfl
  | n :: ns => by
    show (match dat f (.int n), dats f (nW ns) with
      | some d, some ds => some (d :: ds)
      | _, _ => none) = _
    rw [dats_nats f ns]; rfl
theorem dats_ints (f : Nat → Option PyData) : ∀ ns : List Int, dats f (ns.map W.int) = some (ns.map PyData.int)
  | [] => rfl
  | n :: ns => by
    show (match dat f (.int n), dats f (ns.map W.int) with
      | some d, some ds => some (d :: ds)
      | _, _ => none) = _
    rw [dats_ints f ns]; rfl
/-- w is a row of these numbers -/
def NatSeq (w : W) (s : S) (ns : List Nat) : Prop := w = .tup (nW ns) ∨ w = .lst (nW ns) ∨ ∃ n, w = .ref n ∧ s[n]? = some (.lst (nW ns))
theorem depthAll_ints : ∀ ns : List Int, PyData.depthAll (ns.map PyData.int) ≤ 1
  | [] => by simp [PyData.depthAll]
  | n :: ns => by
    have := depthAll_ints ns
    simp only [List.map_cons, PyData.depthAll, PyData.depth]
    omega
theorem layAll_ints : ∀ ns : List Int, PyData.canLayAll0 (ns.map PyData.int) = true
  | [] => rfl
  | n :: ns => by simp [PyData.canLayAll0, PyData.canLay0, layAll_ints ns]
theorem shaped_list_ints (ns : List Int) : SeqAt.shaped (.list (ns.map PyData.int)) = true := by
  have := depthAll_ints ns
  unfold SeqAt.shaped
  rw [Bool.and_eq_true]
  exact ⟨layAll_ints ns, decide_eq_true (by simp only [PyData.depth]; omega)⟩
theorem shaped_tuple_ints (ns : List Int) : SeqAt.shaped (.tuple (ns.map PyData.int)) = true := by
  have := depthAll_ints ns
  unfold SeqAt.shaped
  rw [Bool.and_eq_true]
  exact ⟨layAll_ints ns, decide_eq_true (by simp only [PyData.depth]; omega)⟩
theorem nats_ints (ns : List Nat) : (ns.map fun (i : Nat) => PyData.int (i : Int)) = (ns.map fun (i : Nat) => (i : Int)).map PyData.int := by simp
theorem eqv_int (i j : Int) : PyData.eqv (.int i) (.int j) = decide (i = j) := by
  simp [PyData.eqv]
  rw [Bool.eq_iff_iff]; simp
theorem any_nats (i : Nat) : ∀ ns : List Nat, ((ns.map fun (j : Nat) => PyData.int (j : Int)).any fun y => PyData.eqv y (.int (i : Int))) = decide (i ∈ ns)
  | [] => by simp
  | n :: ns => by
    rw [List.map_cons, List.any_cons, any_nats i ns, eqv_int]
    rw [Bool.eq_iff_iff]
    simp only [Bool.or_eq_true, decide_eq_true_eq, List.mem_cons]
    constructor
    · rintro (h | h)
      · left; omega
      · exact .inr h
    · rintro (h | h)
      · left; omega
      · exact .inr h
theorem in_nats {w : W} {s : S} {ns : List Nat} {i : Nat} {neg : Bool} {q : QW} (h : NatSeq w s ns) (k : q (.bl (neg != decide (i ∈ ns))) s) : oIn neg (.int (i : Int)) w s q := by
  unfold oIn
  rw [← any_nats] at k
  have hi : datS s (.int (i : Int)) = some (.int (i : Int)) := rfl
  rcases h with rfl | rfl | ⟨n, rfl, hn⟩
  · have hd : datS s (.tup (nW ns)) = some (.tuple (ns.map fun (i : Nat) => PyData.int (i : Int))) := by
      show (dats _ (nW ns)).map PyData.tuple = _
      rw [dats_nats]; rfl
    rw [hi, hd]
    refine ⟨?_, k⟩
    rw [nats_ints, shaped_tuple_ints]; rfl
  · have hd : datS s (.lst (nW ns)) = some (.list (ns.map fun (i : Nat) => PyData.int (i : Int))) := by
      show (dats _ (nW ns)).map PyData.list = _
      rw [dats_nats]; rfl
    rw [hi, hd]
    refine ⟨?_, k⟩
    rw [nats_ints, shaped_list_ints]; rfl
  · have hd : datS s (.ref n) = some (.list (ns.map fun (i : Nat) => PyData.int (i : Int))) := by
      show cellD s 3 n = _
      simp only [cellD, hn, dats_nats]
      rfl
    rw [hi, hd]
    refine ⟨?_, k⟩
    rw [nats_ints, shaped_list_ints]; rfl

/-! ## is_open_pipe, trees_of -/
def sp_is_open_pipe : FT := fun ws s q _ => ∃ p, ws = [pW p] ∧ q (.bl p.op) s
theorem ok_is_open_pipe : ∀ ws s q e, sp_is_open_pipe ws s q e → fnM 1 t_is_open_pipe ws s q e := by
  rintro ws s q e ⟨p, rfl, h⟩
  obtain ⟨a, b, lo, hi, me⟩ := p
  cases me with
  | none => exact h
  | some x => exact h
def treesStep (L : List Nat) (p : Pipe) : Option (List Nat) := match L[p.s]?, L[p.t]? with
  | some a, some b => if a = b then none else some (L.map fun t => if t = a ∨ t = b then min a b else t)
  | _, _ => none
def treesOf (n : Nat) (ops : List Pipe) : Option (List Nat) := ops.foldlM treesStep (List.range n)
def sp_trees_of : FT := fun ws s q _ => ∃ (n : Nat) (ops : List Pipe), ws = [.int n, .lst (ops.map pW)] ∧ n ≤ 1000 ∧ (∀ p ∈ ops, p.s < n ∧ p.t < n) ∧ q (match treesOf n ops with
  | none => .non
  | some L => .lst (nW L)) s
theorem treesStep_len {L M : List Nat} {p : Pipe} (h : treesStep L p = some M) : M.length = L.length := by
  unfold treesStep at h
  split at h
  · split at h
    · cases h
    · cases h; simp
  · cases h
theorem ix_nats {w : W} {s : S} {ns : List Nat} {i : Nat} {q : QW} {x : Nat} (h : itemsOf w s = some (nW ns)) (e : ns[i]? = some x) (k : q (.int (x : Int)) s) : oIx w (.int (i : Int)) s q := by
  unfold oIx
  rw [h]
  have hl := (List.getElem?_eq_some_iff.mp e).1
  have : atI (nW ns) (i : Int) = some (.int (x : Int)) := by
    have := atI_nat (xs := nW ns) (j := i) (v := W.int (x : Int)) (by simp [e])
    simpa using this
  simp only [this]
  exact k
theorem px0 {p : Pipe} {s : S} {q : QW} : oIx (pW p) (.int 0) s q = q (.int p.s) s := propext ⟨fun h => h, fun h => h⟩
theorem px1 {p : Pipe} {s : S} {q : QW} : oIx (pW p) (.int 1) s q = q (.int p.t) s := propext ⟨fun h => h, fun h => h⟩
theorem px2 {p : Pipe} {s : S} {q : QW} : oIx (pW p) (.int 2) s q = q (.int p.lo) s := propext ⟨fun h => h, fun h => h⟩
theorem px3 {p : Pipe} {s : S} {q : QW} : oIx (pW p) (.int 3) s q = q (.int p.hi) s := propext ⟨fun h => h, fun h => h⟩
theorem px4 {p : Pipe} {s : S} {q : QW} : oIx (pW p) (.int 4) s q = q (mW p.me) s := propext ⟨fun h => h, fun h => h⟩
theorem nx0 {N : Net} {s : S} {q : QW} : oIx (netW N) (.int 0) s q = q (.int N.b) s := propext ⟨fun h => h, fun h => h⟩
theorem nx1 {N : Net} {s : S} {q : QW} : oIx (netW N) (.int 1) s q = q (.int N.n) s := propext ⟨fun h => h, fun h => h⟩
theorem nx2 {N : Net} {s : S} {q : QW} : oIx (netW N) (.int 2) s q = q (.tup (N.ps.map pW)) s := propext ⟨fun h => h, fun h => h⟩
theorem leW (n : Nat) (h : n ≤ 1000) : n ≤ sizeLine := by rw [sizeLine_eq]; omega
theorem trees_loop {s : S} {c : Cn} {a b : Option W} {n : Nat} (hn : n ≤ 1000) : ∀ (ops : List Pipe) (L : List Nat) (x y z : Option W), (∀ p ∈ ops, p.s < n ∧ p.t < n) → L.length = n →
    (∀ M x y z, ops.foldlM treesStep L = some M → c.nx [a, b, some (.lst (nW M)), x, y, z, none] s) → (ops.foldlM treesStep L = none → c.rt .non s) →
    forL (.nm 3) t_trees_of_b1 [] (ops.map pW) [a, b, some (.lst (nW L)), x, y, z, none] s c
  | [], L, x, y, z, _, _, h, _ => ⟨fun _ h => by simp at h, h L x y z rfl⟩
  | p :: ops, L, x, y, z, hp, hL, h, hno => by
    refine ⟨fun _ h => by simp at h, ?_⟩
    obtain ⟨ps, pt⟩ := hp p (by simp)
    have es : L[p.s]? = some L[p.s] := List.getElem?_eq_getElem (by omega)
    have et : L[p.t]? = some L[p.t] := List.getElem?_eq_getElem (by omega)
    simp only [asg, List.set_cons_succ, List.set_cons_zero]
    generalize hcc : Cn.mk _ _ _ _ _ = c'
    simp only [↓u_fnM, ↓u_mSeq, ↓u_mIfS, ↓u_mRet, ↓u_mRetN, ↓u_mSet, ↓u_mExpr, ↓u_mVar, ↓u_mK, ↓u_mBin, ↓u_mUn, ↓u_mChain, ↓u_mT, ↓u_mAnd, ↓u_mOr, ↓u_mNot, ↓u_bAnd, ↓u_bOr, ↓u_bNot, ↓u_mIf, ↓u_mFn, ↓u_mTup, ↓u_mLst, ↓u_mNew, ↓u_mCons, ↓u_mNil, ↓u_mCall, ↓u_mNext, ↓u_mAsg, ↓u_mFor, ↓u_mComp, ↓u_mCompN, ↓u_iSeqM, ↓u_mEnum, ↓u_mZip, ↓u_mPar2, ↓u_mPar3, ↓u_mPut, ↓u_mAug, ↓u_mAugS, ↓u_mBM, ↓u_mBM0, ↓u_mCallK, ↓u_mListRg, ↓u_mListRgN, ↓u_mTupRg, ↓u_mRg1, ↓u_mRg2, ↓u_iRngM1, ↓u_iRngM2, ↓u_pAt, ↓u_pNo, ↓u_mIsi, ↓u_mNever, ↓u_gtTp, ↓u_gtCons, ↓u_gtNil, ↓u_gtNm, ↓u_gtSub, ↓u_mBreak, ↓u_mCont, ↓u_mDisp, ↓u_bYes, ↓u_oI, ↓u_oB, ↓u_oIs, ↓u_oEqT, ↓u_seqT, ↓u_seqL, ↓u_seqS, ↓mSl_eq, slW_tup, slW_lst, List.map_cons, List.map_nil, List.length_cons, List.length_nil, List.cons_append, List.nil_append, List.getElem?_cons_zero, List.getElem?_cons_succ, List.set_cons_zero, List.set_cons_succ, List.replicate, Nat.reduceAdd, Nat.reduceSub, Nat.zero_add, if_true, Bool.false_eq_true, if_false, Bool.true_eq_false, reduceIte, t_trees_of_b1, px0, px1]
    refine ix_nats rfl es ?_
    refine ix_nats rfl et ?_
    subst hcc
    refine ⟨by show 2 ≤ sizeLine; decide, rfl, rfl, ?_⟩
    rw [eq_int]
    have hstep : treesStep L p = if L[p.s] = L[p.t] then none else some (L.map fun t => if t = L[p.s] ∨ t = L[p.t] then min L[p.s] L[p.t] else t) := by
      unfold treesStep; rw [es, et]
    by_cases he : L[p.s] = L[p.t]
    · have h1 : ((L[p.s] : Nat) : Int) = (L[p.t] : Nat) := by rw [he]
      simp only [h1, decide_true, Bool.false_bne, if_true]
      refine hno ?_
      rw [List.foldlM_cons, hstep, if_pos he]; rfl
    · have h1 : ¬ ((L[p.s] : Nat) : Int) = (L[p.t] : Nat) := by omega
      simp only [h1, decide_false, Bool.false_bne, Bool.false_eq_true, if_false]
      refine compL_map (fun (i : Nat) => W.int (i : Int)) (fun t => some (.int ((if t = L[p.s] ∨ t = L[p.t] then min L[p.s] L[p.t] else t : Nat) : Int))) L [] ?_ (by simp only [List.length_nil]; rw [hL]; exact leW _ (by omega)) (fun _ h => by simp at h) ?_
      · intro t _
        refine ⟨_, rfl, fun _ _ k => k, fun y hy k e hk => ?_⟩
        cases hy
        simp only [↓u_fnM, ↓u_mSeq, ↓u_mIfS, ↓u_mRet, ↓u_mRetN, ↓u_mSet, ↓u_mExpr, ↓u_mVar, ↓u_mK, ↓u_mBin, ↓u_mUn, ↓u_mChain, ↓u_mT, ↓u_mAnd, ↓u_mOr, ↓u_mNot, ↓u_bAnd, ↓u_bOr, ↓u_bNot, ↓u_mIf, ↓u_mFn, ↓u_mTup, ↓u_mLst, ↓u_mNew, ↓u_mCons, ↓u_mNil, ↓u_mCall, ↓u_mNext, ↓u_mAsg, ↓u_mFor, ↓u_mComp, ↓u_mCompN, ↓u_iSeqM, ↓u_mEnum, ↓u_mZip, ↓u_mPar2, ↓u_mPar3, ↓u_mPut, ↓u_mAug, ↓u_mAugS, ↓u_mBM, ↓u_mBM0, ↓u_mCallK, ↓u_mListRg, ↓u_mListRgN, ↓u_mTupRg, ↓u_mRg1, ↓u_mRg2, ↓u_iRngM1, ↓u_iRngM2, ↓u_pAt, ↓u_pNo, ↓u_mIsi, ↓u_mNever, ↓u_gtTp, ↓u_gtCons, ↓u_gtNil, ↓u_gtNm, ↓u_gtSub, ↓u_mBreak, ↓u_mCont, ↓u_mDisp, ↓u_bYes, ↓u_oI, ↓u_oB, ↓u_oIs, ↓u_oEqT, ↓u_seqT, ↓u_seqL, ↓u_seqS, ↓mSl_eq, slW_tup, slW_lst, List.map_cons, List.map_nil, List.length_cons, List.length_nil, List.cons_append, List.nil_append, List.getElem?_cons_zero, List.getElem?_cons_succ, List.set_cons_zero, List.set_cons_succ, List.replicate, Nat.reduceAdd, Nat.reduceSub, Nat.zero_add, if_true, Bool.false_eq_true, if_false, Bool.true_eq_false, reduceIte, wipeL]
        refine ⟨by show 2 ≤ sizeLine; decide, in_nats (ns := [L[p.s], L[p.t]]) (.inl rfl) ?_⟩
        simp only [Bool.false_bne, List.mem_cons, List.not_mem_nil, or_false]
        by_cases hm : t = L[p.s] ∨ t = L[p.t]
        · simp only [hm, decide_true, if_true]
          simp only [hm, if_true] at hk
          show k (.int (if ((L[p.t] : Nat) : Int) < (L[p.s] : Nat) then (L[p.t] : Nat) else (L[p.s] : Nat))) s
          have : (if ((L[p.t] : Nat) : Int) < (L[p.s] : Nat) then ((L[p.t] : Nat) : Int) else (L[p.s] : Nat)) = ((min L[p.s] L[p.t] : Nat) : Int) := by
            split <;> omega
          rw [this]; exact hk
        · simp only [hm, decide_false, Bool.false_eq_true, if_false]
          simp only [hm, if_false] at hk
          exact hk
      · simp only [List.nil_append, List.filterMap_eq_map, List.filterMap_some_fun]
        have hm : (L.map fun t => if t = L[p.s] ∨ t = L[p.t] then min L[p.s] L[p.t] else t).length = n := by simpa using hL
        have := trees_loop (s := s) (c := c) (a := a) (b := b) hn ops _ (some (pW p)) (some (.int L[p.s])) (some (.int L[p.t])) (fun q hq => hp q (by simp [hq])) hm
          (fun M x y z e => h M x y z (by rw [List.foldlM_cons, hstep, if_neg he]; exact e)) (fun e => hno (by rw [List.foldlM_cons, hstep, if_neg he]; exact e))
        simpa [nW, List.map_map, Function.comp_def] using this
theorem ok_trees_of : ∀ ws s q e, sp_trees_of ws s q e → fnM 7 t_trees_of ws s q e := by
  rintro ws s q e ⟨n, ops, rfl, hn, hp, h⟩
  have r0 : rangeL 0 (n : Int) = nW (List.range n) := by
    unfold rangeL
    rw [show ((n : Int) - 0).toNat = n by omega]
    exact rangeW_map n
  simp only [↓u_fnM, ↓u_mSeq, ↓u_mIfS, ↓u_mRet, ↓u_mRetN, ↓u_mSet, ↓u_mExpr, ↓u_mVar, ↓u_mK, ↓u_mBin, ↓u_mUn, ↓u_mChain, ↓u_mT, ↓u_mAnd, ↓u_mOr, ↓u_mNot, ↓u_bAnd, ↓u_bOr, ↓u_bNot, ↓u_mIf, ↓u_mFn, ↓u_mTup, ↓u_mLst, ↓u_mNew, ↓u_mCons, ↓u_mNil, ↓u_mCall, ↓u_mNext, ↓u_mAsg, ↓u_mFor, ↓u_mComp, ↓u_mCompN, ↓u_iSeqM, ↓u_mEnum, ↓u_mZip, ↓u_mPar2, ↓u_mPar3, ↓u_mPut, ↓u_mAug, ↓u_mAugS, ↓u_mBM, ↓u_mBM0, ↓u_mCallK, ↓u_mListRg, ↓u_mListRgN, ↓u_mTupRg, ↓u_mRg1, ↓u_mRg2, ↓u_iRngM1, ↓u_iRngM2, ↓u_pAt, ↓u_pNo, ↓u_mIsi, ↓u_mNever, ↓u_gtTp, ↓u_gtCons, ↓u_gtNil, ↓u_gtNm, ↓u_gtSub, ↓u_mBreak, ↓u_mCont, ↓u_mDisp, ↓u_bYes, ↓u_oI, ↓u_oB, ↓u_oIs, ↓u_oEqT, ↓u_seqT, ↓u_seqL, ↓u_seqS, ↓mSl_eq, slW_tup, slW_lst, List.map_cons, List.map_nil, List.length_cons, List.length_nil, List.cons_append, List.nil_append, List.getElem?_cons_zero, List.getElem?_cons_succ, List.set_cons_zero, List.set_cons_succ, List.replicate, Nat.reduceAdd, Nat.reduceSub, Nat.zero_add, if_true, Bool.false_eq_true, if_false, Bool.true_eq_false, reduceIte, t_trees_of]
  refine ⟨⟨by omega, by omega, by omega, by omega, by omega⟩, ?_⟩
  rw [r0]
  refine trees_loop (n := n) hn ops (List.range n) none none none hp (by simp) (fun M x y z e => ?_) (fun e => ?_)
  · have : treesOf n ops = some M := e
    rw [this] at h
    exact h
  · have : treesOf n ops = none := e
    rw [this] at h
    exact h
end Fw

set_option maxRecDepth 100000
set_option maxHeartbeats 4000000
namespace Fw
open PySem PySem.Spec PyProof.Rows L2

/-! ## check_network of a valid network, open_pipes, groups_of -/
structure OkPipe (b : Int) (n : Nat) (p : Pipe) : Prop where
  s : p.s < n
  t : p.t < n
  ne : p.s ≠ p.t
  lo : 0 ≤ p.lo
  lh : p.lo ≤ p.hi
  hi : p.hi ≤ 1000000000000
  me : ∀ x, p.me = some x → 0 ≤ x ∧ x < b
structure Valid (N : Net) : Prop where
  b2 : 2 ≤ N.b
  b6 : N.b ≤ 1000000
  n1 : 1 ≤ N.n
  n24 : N.n ≤ 24
  len : N.ps.length ≤ 60
  ok : ∀ p ∈ N.ps, OkPipe N.b N.n p
  tree : treesOf N.n N.ops ≠ none
theorem isPipe_ok {b : Int} {n : Nat} {p : Pipe} (h : OkPipe b n p) : isPipeW (pW p) b n = true := by
  have h1 := h.s
  have h2 := h.t
  have h3 := h.ne
  have h4 := h.lo
  have h5 := h.lh
  have h6 := h.hi
  have h7 := h.me
  have h8 : (isNonW (mW p.me) || inB (mW p.me) 0 (b - 1)) = true := by
    cases e : p.me with
    | none => rfl
    | some x => obtain ⟨a1, a2⟩ := h7 x e; simp [mW, inB, isNonW]; omega
  show (inB (.int p.s) 0 (n - 1) && inB (.int p.t) 0 (n - 1) && decide ((p.s : Int) ≠ p.t) && inB (.int p.hi) 0 1000000000000 && inB (.int p.lo) 0 p.hi && (isNonW (mW p.me) || inB (mW p.me) 0 (b - 1))) = true
  rw [h8]
  simp only [inB, Bool.and_eq_true, decide_eq_true_eq]
  and_intros <;> first | trivial | omega
theorem parts_p (p : Pipe) (s : S) : PartsTy (pW p) s := by
  refine ⟨rfl, fun xs e x hx => ?_⟩
  unfold pW at e
  cases e
  simp only [List.mem_cons, List.not_mem_nil, or_false] at hx
  rcases hx with rfl | rfl | rfl | rfl | rfl <;> first | rfl | (cases p.me <;> rfl)
/-- the comprehension [pipe for pipe in pipes if is_open_pipe(pipe)] -/
theorem comp_ops {r : Lv} {s : S} {i : Nat} {ps : List Pipe} {q : List W → S → Prop} (hi : i < r.length) (hl : ps.length ≤ 60) (h : q ((ps.filter Pipe.op).map pW) s) :
    compL (.nm i) (mT (mCall sp_is_open_pipe 1 (mCons (mVar i) mNil))) (mVar i) r [] (ps.map pW) [] s q := by
  refine compL_map pW (fun p => if p.op then some (pW p) else none) ps [] (fun p _ => ?_) (by simp only [List.length_nil]; exact leW _ (by omega)) (fun _ h => by simp at h) ?_
  · refine ⟨_, rfl, fun k e hk => ?_, fun y hy k e hk => ?_⟩
    · have e1 : (r.set i (some (pW p)))[i]? = some (some (pW p)) := List.getElem?_set_self hi
      simp only [↓u_fnM, ↓u_mSeq, ↓u_mIfS, ↓u_mRet, ↓u_mRetN, ↓u_mSet, ↓u_mExpr, ↓u_mVar, ↓u_mK, ↓u_mBin, ↓u_mUn, ↓u_mChain, ↓u_mT, ↓u_mAnd, ↓u_mOr, ↓u_mNot, ↓u_bAnd, ↓u_bOr, ↓u_bNot, ↓u_mIf, ↓u_mFn, ↓u_mTup, ↓u_mLst, ↓u_mNew, ↓u_mCons, ↓u_mNil, ↓u_mCall, ↓u_mNext, ↓u_mAsg, ↓u_mFor, ↓u_mComp, ↓u_mCompN, ↓u_iSeqM, ↓u_mEnum, ↓u_mZip, ↓u_mPar2, ↓u_mPar3, ↓u_mPut, ↓u_mAug, ↓u_mAugS, ↓u_mBM, ↓u_mBM0, ↓u_mCallK, ↓u_mListRg, ↓u_mListRgN, ↓u_mTupRg, ↓u_mRg1, ↓u_mRg2, ↓u_iRngM1, ↓u_iRngM2, ↓u_pAt, ↓u_pNo, ↓u_mIsi, ↓u_mNever, ↓u_gtTp, ↓u_gtCons, ↓u_gtNil, ↓u_gtNm, ↓u_gtSub, ↓u_mBreak, ↓u_mCont, ↓u_mDisp, ↓u_bYes, ↓u_oI, ↓u_oB, ↓u_oIs, ↓u_oEqT, ↓u_seqT, ↓u_seqL, ↓u_seqS, ↓mSl_eq, slW_tup, slW_lst, List.map_cons, List.map_nil, List.length_cons, List.length_nil, List.cons_append, List.nil_append, List.getElem?_cons_zero, List.getElem?_cons_succ, List.set_cons_zero, List.set_cons_succ, List.replicate, Nat.reduceAdd, Nat.reduceSub, Nat.zero_add, if_true, Bool.false_eq_true, if_false, Bool.true_eq_false, reduceIte, e1]
      refine ⟨trivial, p, rfl, ?_⟩
      cases hop : p.op <;> simpa [hop] using hk
    · have e1 : (r.set i (some (pW p)))[i]? = some (some (pW p)) := List.getElem?_set_self hi
      simp only [mVar, e1]
      cases hop : p.op <;> simp [hop] at hy
      rw [hy]; exact hk
  · have : ps.filterMap (fun p => if p.op then some (pW p) else none) = (ps.filter Pipe.op).map pW := by
      clear h hl
      induction ps with
      | nil => rfl
      | cons p ps ih => cases hop : p.op <;> simp [hop, ih]
    rw [this]; simpa using h
def sp_check_network : FT := fun ws s q _ => ∃ N, ws = [netW N] ∧ Valid N ∧ q .non s
theorem check_loop {s : S} {c : Cn} {N : Net} {x0 : Option W} : ∀ (as : List (Pipe × Nat)) (x4 x5 : Option W), (∀ a ∈ as, OkPipe N.b N.n a.1) →
    (∀ x4 x5, c.nx [x0, some (.int N.b), some (.int N.n), some (.tup (N.ps.map pW)), x4, x5] s) →
    forL (.tp [.nm 4, .nm 5]) (t_check_network_b1 sp_is_between sp_is_pipe sp_trees_of sp_is_open_pipe) [] (as.map fun a => .tup [.int (a.2 : Int), pW a.1]) [x0, some (.int N.b), some (.int N.n), some (.tup (N.ps.map pW)), x4, x5] s c
  | [], x4, x5, _, h => ⟨fun _ h => by simp at h, h x4 x5⟩
  | a :: as, x4, x5, ha, h => by
    refine ⟨fun _ h => by simp at h, ?_⟩
    have ok := ha a (by simp)
    simp only [asg, asgs, itemsOf, List.length_cons, List.length_nil, if_true, List.set_cons_succ, List.set_cons_zero]
    generalize hcc : Cn.mk _ _ _ _ _ = c'
    simp only [↓u_fnM, ↓u_mSeq, ↓u_mIfS, ↓u_mRet, ↓u_mRetN, ↓u_mSet, ↓u_mExpr, ↓u_mVar, ↓u_mK, ↓u_mBin, ↓u_mUn, ↓u_mChain, ↓u_mT, ↓u_mAnd, ↓u_mOr, ↓u_mNot, ↓u_bAnd, ↓u_bOr, ↓u_bNot, ↓u_mIf, ↓u_mFn, ↓u_mTup, ↓u_mLst, ↓u_mNew, ↓u_mCons, ↓u_mNil, ↓u_mCall, ↓u_mNext, ↓u_mAsg, ↓u_mFor, ↓u_mComp, ↓u_mCompN, ↓u_iSeqM, ↓u_mEnum, ↓u_mZip, ↓u_mPar2, ↓u_mPar3, ↓u_mPut, ↓u_mAug, ↓u_mAugS, ↓u_mBM, ↓u_mBM0, ↓u_mCallK, ↓u_mListRg, ↓u_mListRgN, ↓u_mTupRg, ↓u_mRg1, ↓u_mRg2, ↓u_iRngM1, ↓u_iRngM2, ↓u_pAt, ↓u_pNo, ↓u_mIsi, ↓u_mNever, ↓u_gtTp, ↓u_gtCons, ↓u_gtNil, ↓u_gtNm, ↓u_gtSub, ↓u_mBreak, ↓u_mCont, ↓u_mDisp, ↓u_bYes, ↓u_oI, ↓u_oB, ↓u_oIs, ↓u_oEqT, ↓u_seqT, ↓u_seqL, ↓u_seqS, ↓mSl_eq, slW_tup, slW_lst, List.map_cons, List.map_nil, List.length_cons, List.length_nil, List.cons_append, List.nil_append, List.getElem?_cons_zero, List.getElem?_cons_succ, List.set_cons_zero, List.set_cons_succ, List.replicate, Nat.reduceAdd, Nat.reduceSub, Nat.zero_add, if_true, Bool.false_eq_true, if_false, Bool.true_eq_false, reduceIte, t_check_network_b1]
    refine ⟨trivial, parts_p a.1 s, ?_⟩
    rw [isPipe_ok ok]
    subst hcc
    exact check_loop as _ _ (fun b hb => ha b (by simp [hb])) h
theorem ok_check_network : ∀ ws s q e, sp_check_network ws s q e → fnM 6 (t_check_network sp_is_between sp_is_pipe sp_trees_of sp_is_open_pipe) ws s q e := by
  rintro ws s q e ⟨N, rfl, V, h⟩
  have b2 := V.b2
  have b6 := V.b6
  have n1 := V.n1
  have n24 := V.n24
  have len := V.len
  simp only [↓u_fnM, ↓u_mSeq, ↓u_mIfS, ↓u_mRet, ↓u_mRetN, ↓u_mSet, ↓u_mExpr, ↓u_mVar, ↓u_mK, ↓u_mBin, ↓u_mUn, ↓u_mChain, ↓u_mT, ↓u_mAnd, ↓u_mOr, ↓u_mNot, ↓u_bAnd, ↓u_bOr, ↓u_bNot, ↓u_mIf, ↓u_mFn, ↓u_mTup, ↓u_mLst, ↓u_mNew, ↓u_mCons, ↓u_mNil, ↓u_mCall, ↓u_mNext, ↓u_mAsg, ↓u_mFor, ↓u_mComp, ↓u_mCompN, ↓u_iSeqM, ↓u_mEnum, ↓u_mZip, ↓u_mPar2, ↓u_mPar3, ↓u_mPut, ↓u_mAug, ↓u_mAugS, ↓u_mBM, ↓u_mBM0, ↓u_mCallK, ↓u_mListRg, ↓u_mListRgN, ↓u_mTupRg, ↓u_mRg1, ↓u_mRg2, ↓u_iRngM1, ↓u_iRngM2, ↓u_pAt, ↓u_pNo, ↓u_mIsi, ↓u_mNever, ↓u_gtTp, ↓u_gtCons, ↓u_gtNil, ↓u_gtNm, ↓u_gtSub, ↓u_mBreak, ↓u_mCont, ↓u_mDisp, ↓u_bYes, ↓u_oI, ↓u_oB, ↓u_oIs, ↓u_oEqT, ↓u_seqT, ↓u_seqL, ↓u_seqS, ↓mSl_eq, slW_tup, slW_lst, List.map_cons, List.map_nil, List.length_cons, List.length_nil, List.cons_append, List.nil_append, List.getElem?_cons_zero, List.getElem?_cons_succ, List.set_cons_zero, List.set_cons_succ, List.replicate, Nat.reduceAdd, Nat.reduceSub, Nat.zero_add, if_true, Bool.false_eq_true, if_false, Bool.true_eq_false, reduceIte, t_check_network, netW, tyNm, isTy, oLen, lenOf, itemsOf, Option.map_some, eq_int, sp_is_between, inB]
  rw [if_neg (by decide), if_neg (by decide)]
  refine ⟨trivial, trivial, trivial, rfl, ?_⟩
  rw [if_neg (by simp; omega)]
  refine ⟨trivial, rfl, ?_⟩
  rw [if_neg (by simp; omega), if_neg (by decide)]
  rw [if_neg (by simp; omega)]
  rw [show seqVals (.tup (N.ps.map pW)) s = some (N.ps.map pW) from rfl]
  simp only [enum_map]
  refine check_loop (N := N) N.ps.zipIdx none none (fun a ha => V.ok _ (List.fst_mem_of_mem_zipIdx ha)) fun x4 x5 => ?_
  refine comp_ops (by simp [wipeL]) len ?_
  refine ⟨trivial, N.n, N.ops, rfl, by omega, fun p hp => ?_, ?_⟩
  · have := V.ok p (List.mem_filter.mp hp).1
    exact ⟨this.s, this.t⟩
  · cases ht : treesOf N.n N.ops with
    | none => exact absurd ht V.tree
    | some L => exact h
end Fw

set_option maxRecDepth 100000
set_option maxHeartbeats 4000000
namespace Fw
open PySem PySem.Spec PyProof.Rows L2

/-! ## indexes of pipes -/
abbrev enP (ps : List Pipe) : List (Pipe × Nat) := ps.zipIdx
abbrev eW (a : Pipe × Nat) : W := .tup [.int (a.2 : Int), pW a.1]
def idxs (ps : List Pipe) (c : Pipe → Bool) : List Nat := ((enP ps).filter fun a => c a.1).map (·.2)
theorem filterMap_if {α β : Type} (c : α → Bool) (f : α → β) : ∀ as : List α, as.filterMap (fun a => if c a then some (f a) else none) = (as.filter c).map f
  | [] => rfl
  | a :: as => by cases h : c a <;> simp [h, filterMap_if c f as]
theorem comp_idx {r : Lv} {s : S} {i j : Nat} {ps : List Pipe} {c : Pipe → Bool} {tt : BT} {q : List W → S → Prop} (hij : i ≠ j) (hi : i < r.length) (hj : j < r.length) (hl : ps.length ≤ 60)
    (ht : ∀ a ∈ enP ps, ∀ (k : Bool → S → Prop) e, k (c a.1) s → tt ((r.set i (some (.int (a.2 : Int)))).set j (some (pW a.1))) s k e) (h : q (nW (idxs ps c)) s) :
    compL (.tp [.nm i, .nm j]) tt (mVar i) r [] ((enP ps).map eW) [] s q := by
  refine compL_map eW (fun a => if c a.1 then some (.int (a.2 : Int)) else none) (enP ps) [] (fun a ha => ?_) (by simp [enP]; exact leW _ (by omega)) (fun _ h => by simp at h) ?_
  · refine ⟨_, rfl, fun k e hk => ht a ha k e ?_, fun y hy k e hk => ?_⟩
    · cases hc : c a.1 <;> simpa [hc] using hk
    · have e1 : ((r.set i (some (.int (a.2 : Int)))).set j (some (pW a.1)))[i]? = some (some (.int (a.2 : Int))) := by
        rw [List.getElem?_set_ne (fun z => hij z.symm), List.getElem?_set_self hi]
      simp only [mVar, e1]
      cases hc : c a.1 <;> simp [hc] at hy
      subst hy; exact hk
  · rw [filterMap_if (fun a => c a.1) (fun a : Pipe × Nat => W.int (a.2 : Int))]
    simpa [idxs, List.map_map, Function.comp_def] using h
def sp_open_pipes : FT := fun ws s q _ => ∃ N, ws = [netW N] ∧ Valid N ∧ q (.tup (nW (idxs N.ps Pipe.op))) s
theorem ok_open_pipes : ∀ ws s q e, sp_open_pipes ws s q e → fnM 3 (t_open_pipes sp_check_network sp_is_open_pipe) ws s q e := by
  rintro ws s q e ⟨N, rfl, V, h⟩
  refine ⟨rfl, N, rfl, V, ?_⟩
  simp only [↓u_fnM, ↓u_mSeq, ↓u_mIfS, ↓u_mRet, ↓u_mRetN, ↓u_mSet, ↓u_mExpr, ↓u_mVar, ↓u_mK, ↓u_mBin, ↓u_mUn, ↓u_mChain, ↓u_mT, ↓u_mAnd, ↓u_mOr, ↓u_mNot, ↓u_bAnd, ↓u_bOr, ↓u_bNot, ↓u_mIf, ↓u_mFn, ↓u_mTup, ↓u_mLst, ↓u_mNew, ↓u_mCons, ↓u_mNil, ↓u_mCall, ↓u_mNext, ↓u_mAsg, ↓u_mFor, ↓u_mComp, ↓u_mCompN, ↓u_iSeqM, ↓u_mEnum, ↓u_mZip, ↓u_mPar2, ↓u_mPar3, ↓u_mPut, ↓u_mAug, ↓u_mAugS, ↓u_mBM, ↓u_mBM0, ↓u_mCallK, ↓u_mListRg, ↓u_mListRgN, ↓u_mTupRg, ↓u_mRg1, ↓u_mRg2, ↓u_iRngM1, ↓u_iRngM2, ↓u_pAt, ↓u_pNo, ↓u_mIsi, ↓u_mNever, ↓u_gtTp, ↓u_gtCons, ↓u_gtNil, ↓u_gtNm, ↓u_gtSub, ↓u_mBreak, ↓u_mCont, ↓u_mDisp, ↓u_bYes, ↓u_oI, ↓u_oB, ↓u_oIs, ↓u_oEqT, ↓u_seqT, ↓u_seqL, ↓u_seqS, ↓mSl_eq, slW_tup, slW_lst, List.map_cons, List.map_nil, List.length_cons, List.length_nil, List.cons_append, List.nil_append, List.getElem?_cons_zero, List.getElem?_cons_succ, List.set_cons_zero, List.set_cons_succ, List.replicate, Nat.reduceAdd, Nat.reduceSub, Nat.zero_add, if_true, Bool.false_eq_true, if_false, Bool.true_eq_false, reduceIte, nx2, seqVals, itemsOf, enum_map]
  refine comp_idx (c := Pipe.op) (by decide) (by simp [wipeL]) (by simp [wipeL]) V.len (fun a _ k e hk => ?_) h
  simp only [↓u_fnM, ↓u_mSeq, ↓u_mIfS, ↓u_mRet, ↓u_mRetN, ↓u_mSet, ↓u_mExpr, ↓u_mVar, ↓u_mK, ↓u_mBin, ↓u_mUn, ↓u_mChain, ↓u_mT, ↓u_mAnd, ↓u_mOr, ↓u_mNot, ↓u_bAnd, ↓u_bOr, ↓u_bNot, ↓u_mIf, ↓u_mFn, ↓u_mTup, ↓u_mLst, ↓u_mNew, ↓u_mCons, ↓u_mNil, ↓u_mCall, ↓u_mNext, ↓u_mAsg, ↓u_mFor, ↓u_mComp, ↓u_mCompN, ↓u_iSeqM, ↓u_mEnum, ↓u_mZip, ↓u_mPar2, ↓u_mPar3, ↓u_mPut, ↓u_mAug, ↓u_mAugS, ↓u_mBM, ↓u_mBM0, ↓u_mCallK, ↓u_mListRg, ↓u_mListRgN, ↓u_mTupRg, ↓u_mRg1, ↓u_mRg2, ↓u_iRngM1, ↓u_iRngM2, ↓u_pAt, ↓u_pNo, ↓u_mIsi, ↓u_mNever, ↓u_gtTp, ↓u_gtCons, ↓u_gtNil, ↓u_gtNm, ↓u_gtSub, ↓u_mBreak, ↓u_mCont, ↓u_mDisp, ↓u_bYes, ↓u_oI, ↓u_oB, ↓u_oIs, ↓u_oEqT, ↓u_seqT, ↓u_seqL, ↓u_seqS, ↓mSl_eq, slW_tup, slW_lst, List.map_cons, List.map_nil, List.length_cons, List.length_nil, List.cons_append, List.nil_append, List.getElem?_cons_zero, List.getElem?_cons_succ, List.set_cons_zero, List.set_cons_succ, List.replicate, Nat.reduceAdd, Nat.reduceSub, Nat.zero_add, if_true, Bool.false_eq_true, if_false, Bool.true_eq_false, reduceIte, wipeL]
  exact ⟨trivial, a.1, rfl, hk⟩
def entC (A : List Nat) (p : Pipe) : Bool := decide (p.t ∈ A) && !decide (p.s ∈ A)
def leaC (A : List Nat) (p : Pipe) : Bool := decide (p.s ∈ A) && !decide (p.t ∈ A)
def sp_entering_pipes : FT := fun ws s q _ => ∃ N w A, ws = [netW N, w] ∧ N.ps.length ≤ 60 ∧ NatSeq w s A ∧ q (.tup (nW (idxs N.ps (entC A)))) s
def sp_leaving_pipes : FT := fun ws s q _ => ∃ N w A, ws = [netW N, w] ∧ N.ps.length ≤ 60 ∧ NatSeq w s A ∧ q (.tup (nW (idxs N.ps (leaC A)))) s
theorem ok_entering_pipes : ∀ ws s q e, sp_entering_pipes ws s q e → fnM 5 t_entering_pipes ws s q e := by
  rintro ws s q e ⟨N, w, A, rfl, hl, hA, h⟩
  simp only [↓u_fnM, ↓u_mSeq, ↓u_mIfS, ↓u_mRet, ↓u_mRetN, ↓u_mSet, ↓u_mExpr, ↓u_mVar, ↓u_mK, ↓u_mBin, ↓u_mUn, ↓u_mChain, ↓u_mT, ↓u_mAnd, ↓u_mOr, ↓u_mNot, ↓u_bAnd, ↓u_bOr, ↓u_bNot, ↓u_mIf, ↓u_mFn, ↓u_mTup, ↓u_mLst, ↓u_mNew, ↓u_mCons, ↓u_mNil, ↓u_mCall, ↓u_mNext, ↓u_mAsg, ↓u_mFor, ↓u_mComp, ↓u_mCompN, ↓u_iSeqM, ↓u_mEnum, ↓u_mZip, ↓u_mPar2, ↓u_mPar3, ↓u_mPut, ↓u_mAug, ↓u_mAugS, ↓u_mBM, ↓u_mBM0, ↓u_mCallK, ↓u_mListRg, ↓u_mListRgN, ↓u_mTupRg, ↓u_mRg1, ↓u_mRg2, ↓u_iRngM1, ↓u_iRngM2, ↓u_pAt, ↓u_pNo, ↓u_mIsi, ↓u_mNever, ↓u_gtTp, ↓u_gtCons, ↓u_gtNil, ↓u_gtNm, ↓u_gtSub, ↓u_mBreak, ↓u_mCont, ↓u_mDisp, ↓u_bYes, ↓u_oI, ↓u_oB, ↓u_oIs, ↓u_oEqT, ↓u_seqT, ↓u_seqL, ↓u_seqS, ↓mSl_eq, slW_tup, slW_lst, List.map_cons, List.map_nil, List.length_cons, List.length_nil, List.cons_append, List.nil_append, List.getElem?_cons_zero, List.getElem?_cons_succ, List.set_cons_zero, List.set_cons_succ, List.replicate, Nat.reduceAdd, Nat.reduceSub, Nat.zero_add, if_true, Bool.false_eq_true, if_false, Bool.true_eq_false, reduceIte, t_entering_pipes, nx2, seqVals, itemsOf, enum_map]
  refine comp_idx (c := entC A) (by decide) (by simp [wipeL]) (by simp [wipeL]) hl (fun a _ k e hk => ?_) h
  simp only [↓u_fnM, ↓u_mSeq, ↓u_mIfS, ↓u_mRet, ↓u_mRetN, ↓u_mSet, ↓u_mExpr, ↓u_mVar, ↓u_mK, ↓u_mBin, ↓u_mUn, ↓u_mChain, ↓u_mT, ↓u_mAnd, ↓u_mOr, ↓u_mNot, ↓u_bAnd, ↓u_bOr, ↓u_bNot, ↓u_mIf, ↓u_mFn, ↓u_mTup, ↓u_mLst, ↓u_mNew, ↓u_mCons, ↓u_mNil, ↓u_mCall, ↓u_mNext, ↓u_mAsg, ↓u_mFor, ↓u_mComp, ↓u_mCompN, ↓u_iSeqM, ↓u_mEnum, ↓u_mZip, ↓u_mPar2, ↓u_mPar3, ↓u_mPut, ↓u_mAug, ↓u_mAugS, ↓u_mBM, ↓u_mBM0, ↓u_mCallK, ↓u_mListRg, ↓u_mListRgN, ↓u_mTupRg, ↓u_mRg1, ↓u_mRg2, ↓u_iRngM1, ↓u_iRngM2, ↓u_pAt, ↓u_pNo, ↓u_mIsi, ↓u_mNever, ↓u_gtTp, ↓u_gtCons, ↓u_gtNil, ↓u_gtNm, ↓u_gtSub, ↓u_mBreak, ↓u_mCont, ↓u_mDisp, ↓u_bYes, ↓u_oI, ↓u_oB, ↓u_oIs, ↓u_oEqT, ↓u_seqT, ↓u_seqL, ↓u_seqS, ↓mSl_eq, slW_tup, slW_lst, List.map_cons, List.map_nil, List.length_cons, List.length_nil, List.cons_append, List.nil_append, List.getElem?_cons_zero, List.getElem?_cons_succ, List.set_cons_zero, List.set_cons_succ, List.replicate, Nat.reduceAdd, Nat.reduceSub, Nat.zero_add, if_true, Bool.false_eq_true, if_false, Bool.true_eq_false, reduceIte, wipeL, px0, px1]
  refine in_nats hA ?_
  unfold entC at hk
  by_cases h1 : a.1.t ∈ A
  · simp only [h1, decide_true, Bool.false_bne, if_true]
    refine in_nats hA ?_
    simpa [h1] using hk
  · simpa [h1] using hk
theorem ok_leaving_pipes : ∀ ws s q e, sp_leaving_pipes ws s q e → fnM 5 t_leaving_pipes ws s q e := by
  rintro ws s q e ⟨N, w, A, rfl, hl, hA, h⟩
  simp only [↓u_fnM, ↓u_mSeq, ↓u_mIfS, ↓u_mRet, ↓u_mRetN, ↓u_mSet, ↓u_mExpr, ↓u_mVar, ↓u_mK, ↓u_mBin, ↓u_mUn, ↓u_mChain, ↓u_mT, ↓u_mAnd, ↓u_mOr, ↓u_mNot, ↓u_bAnd, ↓u_bOr, ↓u_bNot, ↓u_mIf, ↓u_mFn, ↓u_mTup, ↓u_mLst, ↓u_mNew, ↓u_mCons, ↓u_mNil, ↓u_mCall, ↓u_mNext, ↓u_mAsg, ↓u_mFor, ↓u_mComp, ↓u_mCompN, ↓u_iSeqM, ↓u_mEnum, ↓u_mZip, ↓u_mPar2, ↓u_mPar3, ↓u_mPut, ↓u_mAug, ↓u_mAugS, ↓u_mBM, ↓u_mBM0, ↓u_mCallK, ↓u_mListRg, ↓u_mListRgN, ↓u_mTupRg, ↓u_mRg1, ↓u_mRg2, ↓u_iRngM1, ↓u_iRngM2, ↓u_pAt, ↓u_pNo, ↓u_mIsi, ↓u_mNever, ↓u_gtTp, ↓u_gtCons, ↓u_gtNil, ↓u_gtNm, ↓u_gtSub, ↓u_mBreak, ↓u_mCont, ↓u_mDisp, ↓u_bYes, ↓u_oI, ↓u_oB, ↓u_oIs, ↓u_oEqT, ↓u_seqT, ↓u_seqL, ↓u_seqS, ↓mSl_eq, slW_tup, slW_lst, List.map_cons, List.map_nil, List.length_cons, List.length_nil, List.cons_append, List.nil_append, List.getElem?_cons_zero, List.getElem?_cons_succ, List.set_cons_zero, List.set_cons_succ, List.replicate, Nat.reduceAdd, Nat.reduceSub, Nat.zero_add, if_true, Bool.false_eq_true, if_false, Bool.true_eq_false, reduceIte, t_leaving_pipes, nx2, seqVals, itemsOf, enum_map]
  refine comp_idx (c := leaC A) (by decide) (by simp [wipeL]) (by simp [wipeL]) hl (fun a _ k e hk => ?_) h
  simp only [↓u_fnM, ↓u_mSeq, ↓u_mIfS, ↓u_mRet, ↓u_mRetN, ↓u_mSet, ↓u_mExpr, ↓u_mVar, ↓u_mK, ↓u_mBin, ↓u_mUn, ↓u_mChain, ↓u_mT, ↓u_mAnd, ↓u_mOr, ↓u_mNot, ↓u_bAnd, ↓u_bOr, ↓u_bNot, ↓u_mIf, ↓u_mFn, ↓u_mTup, ↓u_mLst, ↓u_mNew, ↓u_mCons, ↓u_mNil, ↓u_mCall, ↓u_mNext, ↓u_mAsg, ↓u_mFor, ↓u_mComp, ↓u_mCompN, ↓u_iSeqM, ↓u_mEnum, ↓u_mZip, ↓u_mPar2, ↓u_mPar3, ↓u_mPut, ↓u_mAug, ↓u_mAugS, ↓u_mBM, ↓u_mBM0, ↓u_mCallK, ↓u_mListRg, ↓u_mListRgN, ↓u_mTupRg, ↓u_mRg1, ↓u_mRg2, ↓u_iRngM1, ↓u_iRngM2, ↓u_pAt, ↓u_pNo, ↓u_mIsi, ↓u_mNever, ↓u_gtTp, ↓u_gtCons, ↓u_gtNil, ↓u_gtNm, ↓u_gtSub, ↓u_mBreak, ↓u_mCont, ↓u_mDisp, ↓u_bYes, ↓u_oI, ↓u_oB, ↓u_oIs, ↓u_oEqT, ↓u_seqT, ↓u_seqL, ↓u_seqS, ↓mSl_eq, slW_tup, slW_lst, List.map_cons, List.map_nil, List.length_cons, List.length_nil, List.cons_append, List.nil_append, List.getElem?_cons_zero, List.getElem?_cons_succ, List.set_cons_zero, List.set_cons_succ, List.replicate, Nat.reduceAdd, Nat.reduceSub, Nat.zero_add, if_true, Bool.false_eq_true, if_false, Bool.true_eq_false, reduceIte, wipeL, px0, px1]
  refine in_nats hA ?_
  unfold leaC at hk
  by_cases h1 : a.1.s ∈ A
  · simp only [h1, decide_true, Bool.false_bne, if_true]
    refine in_nats hA ?_
    simpa [h1] using hk
  · simpa [h1] using hk

/-! ## closed_residue, closed_sum -/
def shown (b : Int) (p : Pipe) : Int := match p.me with
  | none => p.lo % b
  | some x => x
def cval (b : Int) (p : Pipe) : Int := if p.op then 0 else shown b p
def cvI (N : Net) (i : Nat) : Int := match N.ps[i]? with
  | some p => cval N.b p
  | none => 0
def totI (N : Net) (A : List Nat) : Int := ((idxs N.ps (entC A)).map (cvI N)).sum - ((idxs N.ps (leaC A)).map (cvI N)).sum
def tot (N : Net) (A : List Nat) : Int := totI N A % N.b
def sp_closed_residue : FT := fun ws s q _ => ∃ b p, ws = [.int b, pW p] ∧ 0 < b ∧ q (.int (shown b p)) s
theorem ok_closed_residue : ∀ ws s q e, sp_closed_residue ws s q e → fnM 2 t_closed_residue ws s q e := by
  rintro ws s q e ⟨b, p, rfl, hb, h⟩
  simp only [↓u_fnM, ↓u_mSeq, ↓u_mIfS, ↓u_mRet, ↓u_mRetN, ↓u_mSet, ↓u_mExpr, ↓u_mVar, ↓u_mK, ↓u_mBin, ↓u_mUn, ↓u_mChain, ↓u_mT, ↓u_mAnd, ↓u_mOr, ↓u_mNot, ↓u_bAnd, ↓u_bOr, ↓u_bNot, ↓u_mIf, ↓u_mFn, ↓u_mTup, ↓u_mLst, ↓u_mNew, ↓u_mCons, ↓u_mNil, ↓u_mCall, ↓u_mNext, ↓u_mAsg, ↓u_mFor, ↓u_mComp, ↓u_mCompN, ↓u_iSeqM, ↓u_mEnum, ↓u_mZip, ↓u_mPar2, ↓u_mPar3, ↓u_mPut, ↓u_mAug, ↓u_mAugS, ↓u_mBM, ↓u_mBM0, ↓u_mCallK, ↓u_mListRg, ↓u_mListRgN, ↓u_mTupRg, ↓u_mRg1, ↓u_mRg2, ↓u_iRngM1, ↓u_iRngM2, ↓u_pAt, ↓u_pNo, ↓u_mIsi, ↓u_mNever, ↓u_gtTp, ↓u_gtCons, ↓u_gtNil, ↓u_gtNm, ↓u_gtSub, ↓u_mBreak, ↓u_mCont, ↓u_mDisp, ↓u_bYes, ↓u_oI, ↓u_oB, ↓u_oIs, ↓u_oEqT, ↓u_seqT, ↓u_seqL, ↓u_seqS, ↓mSl_eq, slW_tup, slW_lst, List.map_cons, List.map_nil, List.length_cons, List.length_nil, List.cons_append, List.nil_append, List.getElem?_cons_zero, List.getElem?_cons_succ, List.set_cons_zero, List.set_cons_succ, List.replicate, Nat.reduceAdd, Nat.reduceSub, Nat.zero_add, if_true, Bool.false_eq_true, if_false, Bool.true_eq_false, reduceIte, t_closed_residue, px2, px4]
  cases hm : p.me with
  | none => simp only [shown, hm] at h; exact ⟨hb, h⟩
  | some x => simp only [shown, hm] at h; exact h
theorem shown_ok {b : Int} {n : Nat} {p : Pipe} (h : OkPipe b n p) (hb : 2 ≤ b) : 0 ≤ shown b p ∧ shown b p < b := by
  unfold shown
  split
  · exact ⟨Int.emod_nonneg _ (by omega), Int.emod_lt_of_pos _ (by omega)⟩
  · rename_i x e
    exact h.me x e
theorem mem_idxs {ps : List Pipe} {c : Pipe → Bool} {i : Nat} (h : i ∈ idxs ps c) : ∃ p, ps[i]? = some p ∧ c p = true := by
  unfold idxs at h
  obtain ⟨a, ha, rfl⟩ := List.mem_map.mp h
  obtain ⟨h1, h2⟩ := List.mem_filter.mp ha
  exact ⟨a.1, List.mem_zipIdx_iff_getElem?.mp h1, h2⟩
theorem ix_pipe {ps : List Pipe} {i : Nat} {p : Pipe} {s : S} {q : QW} (e : ps[i]? = some p) (k : q (pW p) s) : oIx (.tup (ps.map pW)) (.int (i : Int)) s q := by
  unfold oIx
  have : atI (ps.map pW) (i : Int) = some (pW p) := atI_nat (by simp [e])
  simp only [itemsOf, this]
  exact k
theorem sum_loop {N : Net} {s : S} {c : Cn} {x0 x1 x6 : Option W} {sg : Int} (hs : sg = 1 ∨ sg = -1) (V : Valid N) : ∀ (is : List Nat) (t : Int) (x7 : Option W), (∀ i ∈ is, i < N.ps.length) →
    (∀ x7, c.nx [x0, x1, some (.int N.b), some (.tup (N.ps.map pW)), some (.int (t + sg * (is.map (cvI N)).sum)), some (.int sg), x6, x7] s) →
    forL (.nm 7) (t_closed_sum_b1 sp_entering_pipes sp_leaving_pipes sp_is_open_pipe sp_closed_residue) [] (nW is) [x0, x1, some (.int N.b), some (.tup (N.ps.map pW)), some (.int t), some (.int sg), x6, x7] s c
  | [], t, x7, _, h => ⟨fun _ h => by simp at h, by simpa using h x7⟩
  | i :: is, t, x7, hi, h => by
    refine ⟨fun _ h => by simp at h, ?_⟩
    have hlt := hi i (by simp)
    have ei : N.ps[i]? = some N.ps[i] := List.getElem?_eq_getElem hlt
    have ok := V.ok N.ps[i] (List.getElem_mem hlt)
    have b2 := V.b2
    have b6 := V.b6
    obtain ⟨g1, g2⟩ := shown_ok ok b2
    simp only [asg, List.set_cons_succ, List.set_cons_zero]
    generalize hcc : Cn.mk _ _ _ _ _ = c'
    simp only [↓u_fnM, ↓u_mSeq, ↓u_mIfS, ↓u_mRet, ↓u_mRetN, ↓u_mSet, ↓u_mExpr, ↓u_mVar, ↓u_mK, ↓u_mBin, ↓u_mUn, ↓u_mChain, ↓u_mT, ↓u_mAnd, ↓u_mOr, ↓u_mNot, ↓u_bAnd, ↓u_bOr, ↓u_bNot, ↓u_mIf, ↓u_mFn, ↓u_mTup, ↓u_mLst, ↓u_mNew, ↓u_mCons, ↓u_mNil, ↓u_mCall, ↓u_mNext, ↓u_mAsg, ↓u_mFor, ↓u_mComp, ↓u_mCompN, ↓u_iSeqM, ↓u_mEnum, ↓u_mZip, ↓u_mPar2, ↓u_mPar3, ↓u_mPut, ↓u_mAug, ↓u_mAugS, ↓u_mBM, ↓u_mBM0, ↓u_mCallK, ↓u_mListRg, ↓u_mListRgN, ↓u_mTupRg, ↓u_mRg1, ↓u_mRg2, ↓u_iRngM1, ↓u_iRngM2, ↓u_pAt, ↓u_pNo, ↓u_mIsi, ↓u_mNever, ↓u_gtTp, ↓u_gtCons, ↓u_gtNil, ↓u_gtNm, ↓u_gtSub, ↓u_mBreak, ↓u_mCont, ↓u_mDisp, ↓u_bYes, ↓u_oI, ↓u_oB, ↓u_oIs, ↓u_oEqT, ↓u_seqT, ↓u_seqL, ↓u_seqS, ↓mSl_eq, slW_tup, slW_lst, List.map_cons, List.map_nil, List.length_cons, List.length_nil, List.cons_append, List.nil_append, List.getElem?_cons_zero, List.getElem?_cons_succ, List.set_cons_zero, List.set_cons_succ, List.replicate, Nat.reduceAdd, Nat.reduceSub, Nat.zero_add, if_true, Bool.false_eq_true, if_false, Bool.true_eq_false, reduceIte, t_closed_sum_b1]
    refine ix_pipe ei ⟨trivial, _, rfl, ?_⟩
    have cv : cvI N i = cval N.b N.ps[i] := by unfold cvI; rw [ei]
    cases hop : N.ps[i].op with
    | true =>
      simp only [Bool.not_true, Bool.false_eq_true, if_false]
      subst hcc
      refine sum_loop hs V is t _ (fun j hj => hi j (by simp [hj])) fun x7 => ?_
      have := h x7
      rw [List.map_cons, List.sum_cons, cv] at this
      simpa [cval, hop] using this
    | false =>
      simp only [Bool.not_false, if_true]
      refine ix_pipe ei ⟨trivial, _, _, rfl, by omega, ?_⟩
      refine ⟨?_, trivial, ?_⟩
      · have hb : (shown N.b N.ps[i]).natAbs < 2 ^ 40 := by omega
        rcases hs with rfl | rfl
        · exact wide_mul (a := 2) (b := 40) (by decide) hb (by decide) (by decide) (by decide)
        · exact wide_mul (a := 2) (b := 40) (by decide) hb (by decide) (by decide) (by decide)
      · subst hcc
        refine sum_loop hs V is _ _ (fun j hj => hi j (by simp [hj])) fun x7 => ?_
        have := h x7
        rw [List.map_cons, List.sum_cons, cv] at this
        simp only [cval, hop, Bool.false_eq_true, if_false] at this
        rw [Int.mul_add, ← Int.add_assoc] at this
        exact this
theorem idxs_lt {ps : List Pipe} {c : Pipe → Bool} {i : Nat} (h : i ∈ idxs ps c) : i < ps.length := by
  obtain ⟨p, hp, _⟩ := mem_idxs h
  exact (List.getElem?_eq_some_iff.mp hp).1
def sp_closed_sum : FT := fun ws s q _ => ∃ N w A, ws = [netW N, w] ∧ Valid N ∧ NatSeq w s A ∧ q (.int (tot N A)) s
theorem ok_closed_sum : ∀ ws s q e, sp_closed_sum ws s q e → fnM 8 (t_closed_sum sp_entering_pipes sp_leaving_pipes sp_is_open_pipe sp_closed_residue) ws s q e := by
  rintro ws s q e ⟨N, w, A, rfl, V, hA, h⟩
  have b2 := V.b2
  simp only [↓u_fnM, ↓u_mSeq, ↓u_mIfS, ↓u_mRet, ↓u_mRetN, ↓u_mSet, ↓u_mExpr, ↓u_mVar, ↓u_mK, ↓u_mBin, ↓u_mUn, ↓u_mChain, ↓u_mT, ↓u_mAnd, ↓u_mOr, ↓u_mNot, ↓u_bAnd, ↓u_bOr, ↓u_bNot, ↓u_mIf, ↓u_mFn, ↓u_mTup, ↓u_mLst, ↓u_mNew, ↓u_mCons, ↓u_mNil, ↓u_mCall, ↓u_mNext, ↓u_mAsg, ↓u_mFor, ↓u_mComp, ↓u_mCompN, ↓u_iSeqM, ↓u_mEnum, ↓u_mZip, ↓u_mPar2, ↓u_mPar3, ↓u_mPut, ↓u_mAug, ↓u_mAugS, ↓u_mBM, ↓u_mBM0, ↓u_mCallK, ↓u_mListRg, ↓u_mListRgN, ↓u_mTupRg, ↓u_mRg1, ↓u_mRg2, ↓u_iRngM1, ↓u_iRngM2, ↓u_pAt, ↓u_pNo, ↓u_mIsi, ↓u_mNever, ↓u_gtTp, ↓u_gtCons, ↓u_gtNil, ↓u_gtNm, ↓u_gtSub, ↓u_mBreak, ↓u_mCont, ↓u_mDisp, ↓u_bYes, ↓u_oI, ↓u_oB, ↓u_oIs, ↓u_oEqT, ↓u_seqT, ↓u_seqL, ↓u_seqS, ↓mSl_eq, slW_tup, slW_lst, List.map_cons, List.map_nil, List.length_cons, List.length_nil, List.cons_append, List.nil_append, List.getElem?_cons_zero, List.getElem?_cons_succ, List.set_cons_zero, List.set_cons_succ, List.replicate, Nat.reduceAdd, Nat.reduceSub, Nat.zero_add, if_true, Bool.false_eq_true, if_false, Bool.true_eq_false, reduceIte, t_closed_sum, nx0, nx2]
  refine ⟨trivial, N, w, A, rfl, V.len, hA, ?_⟩
  refine ⟨by show 2 ≤ sizeLine; decide, trivial, N, w, A, rfl, V.len, hA, ?_⟩
  refine ⟨by show 2 ≤ sizeLine; decide, by show 2 ≤ sizeLine; decide, fun _ h => by simp at h, ?_⟩
  simp only [asg, asgs, itemsOf, List.length_cons, List.length_nil, if_true, List.set_cons_succ, List.set_cons_zero]
  simp only [t_closed_sum_b2, mFor, iSeqM, mVar, seqOf, List.getElem?_cons_zero, List.getElem?_cons_succ]
  refine sum_loop (.inl rfl) V _ 0 none (fun i hi => idxs_lt hi) fun x7 => ⟨fun _ h => by simp at h, ?_⟩
  simp only [asg, asgs, itemsOf, List.length_cons, List.length_nil, if_true, List.set_cons_succ, List.set_cons_zero]
  refine sum_loop (.inr rfl) V _ _ x7 (fun i hi => idxs_lt hi) fun x7 => ⟨fun _ h => by simp at h, ?_⟩
  refine ⟨by omega, ?_⟩
  have e1 : (0 + 1 * ((idxs N.ps (entC A)).map (cvI N)).sum + -1 * ((idxs N.ps (leaC A)).map (cvI N)).sum) = totI N A := by unfold totI; omega
  rw [e1]; exact h
end Fw

set_option maxRecDepth 100000
set_option maxHeartbeats 4000000
namespace Fw
open PySem PySem.Spec PyProof.Rows L2

/-! ## groups_of, group_sums -/
theorem eq_tup_nil {s : S} {q : QW} {g : List Nat} {neg : Bool} : oEq neg (.tup (nW g)) (.tup []) s q = q (.bl (neg != decide (g = []))) s := by
  have hd : datS s (.tup (nW g)) = some (.tuple (g.map fun (i : Nat) => PyData.int (i : Int))) := by
    show (dats _ (nW g)).map PyData.tuple = _
    rw [dats_nats]; rfl
  have he : datS s (.tup []) = some (.tuple []) := rfl
  unfold oEq
  rw [hd, he]
  have h1 : SeqAt.shaped (.tuple (g.map fun (i : Nat) => PyData.int (i : Int))) = true := by rw [nats_ints, shaped_tuple_ints]
  have h2 : SeqAt.shaped (.tuple []) = true := rfl
  have h3 : PyData.eqv (.tuple (g.map fun (i : Nat) => PyData.int (i : Int))) (.tuple []) = decide (g = []) := by
    cases g <;> simp [PyData.eqv, PyData.eqvAll]
  simp only [h1, h2, h3, Bool.and_self, true_and]
def classL (n : Nat) (L : List Nat) (l : Nat) : List Nat := (List.range n).filter fun p => decide (L[p]? = some l)
def groupsL (n : Nat) (L : List Nat) : List (List Nat) := ((List.range n).map (classL n L)).filter fun g => decide (g ≠ [])
theorem comp_nats {r : Lv} {s : S} {i : Nat} {ns : List Nat} {c : Nat → Bool} {tt : BT} {q : List W → S → Prop} (hi : i < r.length) (hl : ns.length ≤ 1000)
    (ht : ∀ x ∈ ns, ∀ (k : Bool → S → Prop) e, k (c x) s → tt (r.set i (some (.int (x : Int)))) s k e) (h : q (nW (ns.filter c)) s) :
    compL (.nm i) tt (mVar i) r [] (nW ns) [] s q := by
  refine compL_map (fun (x : Nat) => W.int (x : Int)) (fun x => if c x then some (.int (x : Int)) else none) ns [] (fun x hx => ?_) (by simp only [List.length_nil]; exact leW _ (by omega)) (fun _ h => by simp at h) ?_
  · refine ⟨_, rfl, fun k e hk => ht x hx k e ?_, fun y hy k e hk => ?_⟩
    · cases hc : c x <;> simpa [hc] using hk
    · have e1 : (r.set i (some (W.int (x : Int))))[i]? = some (some (.int (x : Int))) := List.getElem?_set_self hi
      simp only [mVar, e1]
      cases hc : c x <;> simp [hc] at hy
      subst hy; exact hk
  · rw [filterMap_if c (fun x : Nat => W.int (x : Int))]
    simpa using h
def sp_groups_of : FT := fun ws s q _ => ∃ N L, ws = [netW N] ∧ Valid N ∧ treesOf N.n N.ops = some L ∧ q (.tup ((groupsL N.n L).map fun g => .tup (nW g))) s
theorem treesOf_len {n : Nat} {ops : List Pipe} {L : List Nat} (h : treesOf n ops = some L) : L.length = n := by
  have go : ∀ (ops : List Pipe) (L M : List Nat), ops.foldlM treesStep L = some M → M.length = L.length := by
    intro ops
    induction ops with
    | nil => intro L M h; simp at h; rw [h]
    | cons p ops ih =>
      intro L M h
      rw [List.foldlM_cons] at h
      obtain ⟨K, h1, h2⟩ := Option.bind_eq_some_iff.mp h
      rw [ih K M h2, treesStep_len h1]
  rw [go ops _ _ h]; simp
theorem ok_groups_of : ∀ ws s q e, sp_groups_of ws s q e → fnM 8 (t_groups_of sp_trees_of sp_is_open_pipe) ws s q e := by
  rintro ws s q e ⟨N, L, rfl, V, hL, h⟩
  have n24 := V.n24
  have hlen := treesOf_len hL
  simp only [↓u_fnM, ↓u_mSeq, ↓u_mIfS, ↓u_mRet, ↓u_mRetN, ↓u_mSet, ↓u_mExpr, ↓u_mVar, ↓u_mK, ↓u_mBin, ↓u_mUn, ↓u_mChain, ↓u_mT, ↓u_mAnd, ↓u_mOr, ↓u_mNot, ↓u_bAnd, ↓u_bOr, ↓u_bNot, ↓u_mIf, ↓u_mFn, ↓u_mTup, ↓u_mLst, ↓u_mNew, ↓u_mCons, ↓u_mNil, ↓u_mCall, ↓u_mNext, ↓u_mAsg, ↓u_mFor, ↓u_mComp, ↓u_mCompN, ↓u_iSeqM, ↓u_mEnum, ↓u_mZip, ↓u_mPar2, ↓u_mPar3, ↓u_mPut, ↓u_mAug, ↓u_mAugS, ↓u_mBM, ↓u_mBM0, ↓u_mCallK, ↓u_mListRg, ↓u_mListRgN, ↓u_mTupRg, ↓u_mRg1, ↓u_mRg2, ↓u_iRngM1, ↓u_iRngM2, ↓u_pAt, ↓u_pNo, ↓u_mIsi, ↓u_mNever, ↓u_gtTp, ↓u_gtCons, ↓u_gtNil, ↓u_gtNm, ↓u_gtSub, ↓u_mBreak, ↓u_mCont, ↓u_mDisp, ↓u_bYes, ↓u_oI, ↓u_oB, ↓u_oIs, ↓u_oEqT, ↓u_seqT, ↓u_seqL, ↓u_seqS, ↓mSl_eq, slW_tup, slW_lst, List.map_cons, List.map_nil, List.length_cons, List.length_nil, List.cons_append, List.nil_append, List.getElem?_cons_zero, List.getElem?_cons_succ, List.set_cons_zero, List.set_cons_succ, List.replicate, Nat.reduceAdd, Nat.reduceSub, Nat.zero_add, if_true, Bool.false_eq_true, if_false, Bool.true_eq_false, reduceIte, t_groups_of, nx1, nx2]
  refine comp_ops (by simp [wipeL]) V.len ⟨trivial, N.n, N.ops, rfl, by omega, fun p hp => ?_, ?_⟩
  · have := V.ok p (List.mem_filter.mp hp).1
    exact ⟨this.s, this.t⟩
  · rw [hL]
    refine ⟨⟨by omega, by omega⟩, ?_⟩
    rw [show ((N.n : Int)).toNat = N.n by omega, rangeW_map]
    refine compL_map (fun (x : Nat) => W.int (x : Int)) (fun l => some (.tup (nW (classL N.n L l)))) (List.range N.n) [] (fun l _ => ?_) (by simp; exact leW _ (by omega)) (fun _ h => by simp at h) ?_
    · refine ⟨_, rfl, fun k e hk => hk, fun y hy k e hk => ?_⟩
      cases hy
      simp only [↓u_fnM, ↓u_mSeq, ↓u_mIfS, ↓u_mRet, ↓u_mRetN, ↓u_mSet, ↓u_mExpr, ↓u_mVar, ↓u_mK, ↓u_mBin, ↓u_mUn, ↓u_mChain, ↓u_mT, ↓u_mAnd, ↓u_mOr, ↓u_mNot, ↓u_bAnd, ↓u_bOr, ↓u_bNot, ↓u_mIf, ↓u_mFn, ↓u_mTup, ↓u_mLst, ↓u_mNew, ↓u_mCons, ↓u_mNil, ↓u_mCall, ↓u_mNext, ↓u_mAsg, ↓u_mFor, ↓u_mComp, ↓u_mCompN, ↓u_iSeqM, ↓u_mEnum, ↓u_mZip, ↓u_mPar2, ↓u_mPar3, ↓u_mPut, ↓u_mAug, ↓u_mAugS, ↓u_mBM, ↓u_mBM0, ↓u_mCallK, ↓u_mListRg, ↓u_mListRgN, ↓u_mTupRg, ↓u_mRg1, ↓u_mRg2, ↓u_iRngM1, ↓u_iRngM2, ↓u_pAt, ↓u_pNo, ↓u_mIsi, ↓u_mNever, ↓u_gtTp, ↓u_gtCons, ↓u_gtNil, ↓u_gtNm, ↓u_gtSub, ↓u_mBreak, ↓u_mCont, ↓u_mDisp, ↓u_bYes, ↓u_oI, ↓u_oB, ↓u_oIs, ↓u_oEqT, ↓u_seqT, ↓u_seqL, ↓u_seqS, ↓mSl_eq, slW_tup, slW_lst, List.map_cons, List.map_nil, List.length_cons, List.length_nil, List.cons_append, List.nil_append, List.getElem?_cons_zero, List.getElem?_cons_succ, List.set_cons_zero, List.set_cons_succ, List.replicate, Nat.reduceAdd, Nat.reduceSub, Nat.zero_add, if_true, Bool.false_eq_true, if_false, Bool.true_eq_false, reduceIte, wipeL]
      refine ⟨⟨by omega, by omega⟩, ?_⟩
      rw [show ((N.n : Int)).toNat = N.n by omega, rangeW_map]
      refine comp_nats (c := fun p => decide (L[p]? = some l)) (by simp) (by simp; omega) (fun x hx k' e' hk' => ?_) ?_
      · have hx' : x < L.length := by rw [hlen]; exact List.mem_range.mp hx
        simp only [↓u_fnM, ↓u_mSeq, ↓u_mIfS, ↓u_mRet, ↓u_mRetN, ↓u_mSet, ↓u_mExpr, ↓u_mVar, ↓u_mK, ↓u_mBin, ↓u_mUn, ↓u_mChain, ↓u_mT, ↓u_mAnd, ↓u_mOr, ↓u_mNot, ↓u_bAnd, ↓u_bOr, ↓u_bNot, ↓u_mIf, ↓u_mFn, ↓u_mTup, ↓u_mLst, ↓u_mNew, ↓u_mCons, ↓u_mNil, ↓u_mCall, ↓u_mNext, ↓u_mAsg, ↓u_mFor, ↓u_mComp, ↓u_mCompN, ↓u_iSeqM, ↓u_mEnum, ↓u_mZip, ↓u_mPar2, ↓u_mPar3, ↓u_mPut, ↓u_mAug, ↓u_mAugS, ↓u_mBM, ↓u_mBM0, ↓u_mCallK, ↓u_mListRg, ↓u_mListRgN, ↓u_mTupRg, ↓u_mRg1, ↓u_mRg2, ↓u_iRngM1, ↓u_iRngM2, ↓u_pAt, ↓u_pNo, ↓u_mIsi, ↓u_mNever, ↓u_gtTp, ↓u_gtCons, ↓u_gtNil, ↓u_gtNm, ↓u_gtSub, ↓u_mBreak, ↓u_mCont, ↓u_mDisp, ↓u_bYes, ↓u_oI, ↓u_oB, ↓u_oIs, ↓u_oEqT, ↓u_seqT, ↓u_seqL, ↓u_seqS, ↓mSl_eq, slW_tup, slW_lst, List.map_cons, List.map_nil, List.length_cons, List.length_nil, List.cons_append, List.nil_append, List.getElem?_cons_zero, List.getElem?_cons_succ, List.set_cons_zero, List.set_cons_succ, List.replicate, Nat.reduceAdd, Nat.reduceSub, Nat.zero_add, if_true, Bool.false_eq_true, if_false, Bool.true_eq_false, reduceIte]
        refine ix_nats rfl (List.getElem?_eq_getElem hx') ?_
        rw [eq_int]
        have : decide (((L[x] : Nat) : Int) = (l : Nat)) = decide (L[x]? = some l) := by
          rw [List.getElem?_eq_getElem hx', Bool.eq_iff_iff]; simp
          omega
        rw [this]
        simpa using hk'
      · exact hk
    · have e1 : ([] : List W) ++ List.filterMap (fun l => some (W.tup (nW (classL N.n L l)))) (List.range N.n) = ((List.range N.n).map (classL N.n L)).map (fun g => W.tup (nW g)) := by
        rw [List.nil_append, List.map_map, ← List.filterMap_eq_map]; rfl
      rw [e1]
      refine compL_map (fun g => .tup (nW g)) (fun g => if decide (g ≠ []) then some (.tup (nW g)) else none) ((List.range N.n).map (classL N.n L)) [] (fun g _ => ?_) (by simp; exact leW _ (by omega)) (fun _ h => by simp at h) ?_
      · refine ⟨_, rfl, fun k e hk => ?_, fun y hy k e hk => ?_⟩
        · simp only [↓u_fnM, ↓u_mSeq, ↓u_mIfS, ↓u_mRet, ↓u_mRetN, ↓u_mSet, ↓u_mExpr, ↓u_mVar, ↓u_mK, ↓u_mBin, ↓u_mUn, ↓u_mChain, ↓u_mT, ↓u_mAnd, ↓u_mOr, ↓u_mNot, ↓u_bAnd, ↓u_bOr, ↓u_bNot, ↓u_mIf, ↓u_mFn, ↓u_mTup, ↓u_mLst, ↓u_mNew, ↓u_mCons, ↓u_mNil, ↓u_mCall, ↓u_mNext, ↓u_mAsg, ↓u_mFor, ↓u_mComp, ↓u_mCompN, ↓u_iSeqM, ↓u_mEnum, ↓u_mZip, ↓u_mPar2, ↓u_mPar3, ↓u_mPut, ↓u_mAug, ↓u_mAugS, ↓u_mBM, ↓u_mBM0, ↓u_mCallK, ↓u_mListRg, ↓u_mListRgN, ↓u_mTupRg, ↓u_mRg1, ↓u_mRg2, ↓u_iRngM1, ↓u_iRngM2, ↓u_pAt, ↓u_pNo, ↓u_mIsi, ↓u_mNever, ↓u_gtTp, ↓u_gtCons, ↓u_gtNil, ↓u_gtNm, ↓u_gtSub, ↓u_mBreak, ↓u_mCont, ↓u_mDisp, ↓u_bYes, ↓u_oI, ↓u_oB, ↓u_oIs, ↓u_oEqT, ↓u_seqT, ↓u_seqL, ↓u_seqS, ↓mSl_eq, slW_tup, slW_lst, List.map_cons, List.map_nil, List.length_cons, List.length_nil, List.cons_append, List.nil_append, List.getElem?_cons_zero, List.getElem?_cons_succ, List.set_cons_zero, List.set_cons_succ, List.replicate, Nat.reduceAdd, Nat.reduceSub, Nat.zero_add, if_true, Bool.false_eq_true, if_false, Bool.true_eq_false, reduceIte, wipeL]
          refine ⟨by show 0 ≤ sizeLine; omega, ?_⟩
          rw [eq_tup_nil]
          by_cases hg : g = [] <;> simpa [hg] using hk
        · simp only [↓u_fnM, ↓u_mSeq, ↓u_mIfS, ↓u_mRet, ↓u_mRetN, ↓u_mSet, ↓u_mExpr, ↓u_mVar, ↓u_mK, ↓u_mBin, ↓u_mUn, ↓u_mChain, ↓u_mT, ↓u_mAnd, ↓u_mOr, ↓u_mNot, ↓u_bAnd, ↓u_bOr, ↓u_bNot, ↓u_mIf, ↓u_mFn, ↓u_mTup, ↓u_mLst, ↓u_mNew, ↓u_mCons, ↓u_mNil, ↓u_mCall, ↓u_mNext, ↓u_mAsg, ↓u_mFor, ↓u_mComp, ↓u_mCompN, ↓u_iSeqM, ↓u_mEnum, ↓u_mZip, ↓u_mPar2, ↓u_mPar3, ↓u_mPut, ↓u_mAug, ↓u_mAugS, ↓u_mBM, ↓u_mBM0, ↓u_mCallK, ↓u_mListRg, ↓u_mListRgN, ↓u_mTupRg, ↓u_mRg1, ↓u_mRg2, ↓u_iRngM1, ↓u_iRngM2, ↓u_pAt, ↓u_pNo, ↓u_mIsi, ↓u_mNever, ↓u_gtTp, ↓u_gtCons, ↓u_gtNil, ↓u_gtNm, ↓u_gtSub, ↓u_mBreak, ↓u_mCont, ↓u_mDisp, ↓u_bYes, ↓u_oI, ↓u_oB, ↓u_oIs, ↓u_oEqT, ↓u_seqT, ↓u_seqL, ↓u_seqS, ↓mSl_eq, slW_tup, slW_lst, List.map_cons, List.map_nil, List.length_cons, List.length_nil, List.cons_append, List.nil_append, List.getElem?_cons_zero, List.getElem?_cons_succ, List.set_cons_zero, List.set_cons_succ, List.replicate, Nat.reduceAdd, Nat.reduceSub, Nat.zero_add, if_true, Bool.false_eq_true, if_false, Bool.true_eq_false, reduceIte, wipeL]
          by_cases hg : g = [] <;> simp [hg] at hy
          subst hy; exact hk
      · rw [filterMap_if (fun g => decide (g ≠ [])) (fun g : List Nat => W.tup (nW g))]
        exact h
def sp_group_sums : FT := fun ws s q _ => ∃ N L, ws = [netW N] ∧ Valid N ∧ treesOf N.n N.ops = some L ∧ q (.tup ((groupsL N.n L).map fun g => .tup [.tup (nW g), .int (tot N g)])) s
theorem groupsL_len {n : Nat} {L : List Nat} : (groupsL n L).length ≤ n := by
  unfold groupsL
  exact Nat.le_trans (List.length_filter_le _ _) (by simp)
theorem ok_group_sums : ∀ ws s q e, sp_group_sums ws s q e → fnM 2 (t_group_sums sp_check_network sp_groups_of sp_closed_sum) ws s q e := by
  rintro ws s q e ⟨N, L, rfl, V, hL, h⟩
  have n24 := V.n24
  refine ⟨rfl, N, rfl, V, ?_⟩
  refine ⟨rfl, N, L, rfl, V, hL, ?_⟩
  refine compL_map (fun g => .tup (nW g)) (fun g => some (.tup [.tup (nW g), .int (tot N g)])) (groupsL N.n L) [] (fun g _ => ?_) (by have := groupsL_len (n := N.n) (L := L); simp only [List.length_nil]; exact leW _ (by omega)) (fun _ h => by simp at h) ?_
  · refine ⟨_, rfl, fun k e hk => hk, fun y hy k e hk => ?_⟩
    cases hy
    refine ⟨rfl, N, _, g, rfl, V, .inl rfl, ?_⟩
    exact ⟨by show 2 ≤ sizeLine; decide, hk⟩
  · simp only [List.nil_append, List.filterMap_eq_map, List.filterMap_some_fun]
    rw [show (fun g => some (W.tup [.tup (nW g), .int (tot N g)])) = some ∘ (fun g => W.tup [.tup (nW g), .int (tot N g)]) from rfl, List.filterMap_eq_map]
    exact h
end Fw

set_option maxRecDepth 100000
set_option maxHeartbeats 4000000
namespace Fw
open PySem PySem.Spec PyProof.Rows L2

/-! ## rounds: the places that pipes join -/
def crossP (f : List Nat) (p : Pipe) : Bool := decide (p.s ∈ f) != decide (p.t ∈ f)
def stepF (o : Option Nat) (f : List Nat) (a : Pipe × Nat) : List Nat := if decide (some a.2 ≠ o) && (a.1.op && crossP f a.1) then f ++ [if a.1.s ∈ f then a.1.t else a.1.s] else f
def rndF (o : Option Nat) (ps : List Pipe) (f : List Nat) : List Nat := (enP ps).foldl (stepF o) f
structure FOk (n : Nat) (f : List Nat) : Prop where
  nd : f.Nodup
  lt : ∀ x ∈ f, x < n
theorem nodup_le : ∀ (n : Nat) (f : List Nat), f.Nodup → (∀ x ∈ f, x < n) → f.length ≤ n
  | 0, f, _, h => by
    cases f with
    | nil => simp
    | cons x r => exact absurd (h x (by simp)) (by omega)
  | n + 1, f, nd, h => by
    have h1 := nodup_le n (f.erase n) (nd.erase n) fun x hx => by
      have := h x (List.mem_of_mem_erase hx)
      have : x ≠ n := fun z => by
        subst z
        exact (List.Nodup.not_mem_erase nd) hx
      omega
    have h2 := List.length_erase (a := n) (l := f)
    split at h2 <;> omega
theorem FOk.len {n : Nat} {f : List Nat} (h : FOk n f) : f.length ≤ n := nodup_le n f h.nd h.lt
theorem stepF_ok {n : Nat} {o : Option Nat} {f : List Nat} {a : Pipe × Nat} (h : FOk n f) (hs : a.1.s < n) (ht : a.1.t < n) : FOk n (stepF o f a) := by
  unfold stepF
  split
  · rename_i hc
    simp only [Bool.and_eq_true] at hc
    have hx : crossP f a.1 = true := hc.2.2
    unfold crossP at hx
    refine ⟨?_, fun x hx => ?_⟩
    · rw [List.nodup_append]
      refine ⟨h.nd, by simp, fun x hx' y hy z => ?_⟩
      simp only [List.mem_singleton] at hy
      subst z
      by_cases hs' : a.1.s ∈ f <;> simp_all
    · rcases List.mem_append.mp hx with hx | hx
      · exact h.lt x hx
      · simp only [List.mem_singleton] at hx
        split at hx <;> omega
  · exact h
theorem foldF_ok {n : Nat} {o : Option Nat} : ∀ (as : List (Pipe × Nat)) (f : List Nat), FOk n f → (∀ a ∈ as, a.1.s < n ∧ a.1.t < n) → FOk n (as.foldl (stepF o) f)
  | [], f, h, _ => h
  | a :: as, f, h, ha => foldF_ok as _ (stepF_ok h (ha a (by simp)).1 (ha a (by simp)).2) (fun b hb => ha b (by simp [hb]))
theorem stepF_le {o : Option Nat} {f : List Nat} {a : Pipe × Nat} : f.length ≤ (stepF o f a).length := by
  unfold stepF; split <;> simp
theorem foldF_le {o : Option Nat} : ∀ (as : List (Pipe × Nat)) (f : List Nat), f.length ≤ (as.foldl (stepF o) f).length
  | [], f => Nat.le_refl _
  | a :: as, f => Nat.le_trans stepF_le (foldF_le as _)

/-! ## one round, walked -/
def optN : Option Nat → W
  | none => .non
  | some n => .int (n : Int)
theorem ne_opt {k : Nat} {o : Option Nat} {s : S} {q : QW} : oEq true (.int (k : Int)) (optN o) s q = q (.bl (decide (some k ≠ o))) s := by
  cases o with
  | none =>
    have h : PyData.eqv (.int (k : Int)) .none = false := rfl
    show ((true && true) = true ∧ q (.bl (true != PyData.eqv (.int (k : Int)) .none)) s) = _
    rw [h]; simp
  | some n =>
    show oEq true (.int (k : Int)) (.int (n : Int)) s q = _
    rw [eq_int]
    have : (true != decide ((k : Int) = (n : Int))) = decide (some k ≠ some n) := by
      rw [Bool.eq_iff_iff]; simp; omega
    rw [this]
theorem eq_bl {a b : Bool} {neg : Bool} {s : S} {q : QW} : oEq neg (.bl a) (.bl b) s q = q (.bl (neg != (a == b))) s := by
  show ((true && true) = true ∧ q (.bl (neg != PyData.eqv (.bool a) (.bool b))) s) = _
  have h : PyData.eqv (.bool a) (.bool b) = (a == b) := rfl
  rw [h]; simp
theorem get_last {s : S} {c : Cell} : (s ++ [c])[s.length]? = some c := by simp
theorem set_last {s : S} {c d : Cell} : (s ++ [c]).set s.length d = s ++ [d] := by simp
theorem in_last {s : S} {f : List Nat} : NatSeq (.ref s.length) (s ++ [.lst (nW f)]) f := .inr (.inr ⟨_, rfl, get_last⟩)
theorem append_last {s : S} {f : List W} {y : W} {q : QW} (h : f.length < sizeLine) (k : q .non (s ++ [.lst (f ++ [y])])) : oAppend (.ref s.length) [y] (s ++ [.lst f]) q := by
  unfold oAppend cellL
  simp only [get_last]
  refine ⟨h, ?_⟩
  rw [set_last]; exact k
def roundB (v : Nat) (g : FT) : ST := (mIfS (bAnd (mT (mBin (oEq true) (mVar 5) (mVar v))) (bAnd (mT (mCall g 1 (mCons (mVar 6) mNil))) (mT (mBin (oEq true) (mBin (oIn false) (mBin oIx (mVar 6) (mK (.int 0))) (mVar 3)) (mBin (oIn false) (mBin oIx (mVar 6) (mK (.int 1))) (mVar 3)))))) (mExpr (mBM oAppend (mVar 3) (mCons (mIf (mT (mBin (oIn false) (mBin oIx (mVar 6) (mK (.int 0))) (mVar 3))) (mBin oIx (mVar 6) (mK (.int 1))) (mBin oIx (mVar 6) (mK (.int 0)))) mNil))) mNext)
theorem round_loop {v : Nat} {s : S} {c : Cn} {a0 a1 a2 a4 : Option W} {o : Option Nat} {n : Nat} (hn : n ≤ 1000) (hv : ∀ x5 x6 fW, ([a0, a1, a2, fW, a4, x5, x6] : Lv)[v]? = some (some (optN o))) : ∀ (as : List (Pipe × Nat)) (f : List Nat) (x5 x6 : Option W), FOk n f → (∀ a ∈ as, a.1.s < n ∧ a.1.t < n) →
    (∀ x5 x6, c.nx [a0, a1, a2, some (.ref s.length), a4, x5, x6] (s ++ [.lst (nW (as.foldl (stepF o) f))])) →
    forL (.tp [.nm 5, .nm 6]) (roundB v sp_is_open_pipe) [] (as.map eW) [a0, a1, a2, some (.ref s.length), a4, x5, x6] (s ++ [.lst (nW f)]) c
  | [], f, x5, x6, _, _, h => ⟨fun _ h => by simp at h, h x5 x6⟩
  | a :: as, f, x5, x6, hf, ha, h => by
    refine ⟨fun _ h => by simp at h, ?_⟩
    have hfl := hf.len
    obtain ⟨has, hat⟩ := ha a (by simp)
    simp only [asg, asgs, itemsOf, List.length_cons, List.length_nil, if_true, List.set_cons_succ, List.set_cons_zero]
    have hgo : ∀ x5 x6, forL (.tp [.nm 5, .nm 6]) (roundB v sp_is_open_pipe) [] (as.map eW) [a0, a1, a2, some (.ref s.length), a4, x5, x6] (s ++ [.lst (nW (stepF o f a))]) c := fun x5 x6 =>
      round_loop hn hv as (stepF o f a) x5 x6 (stepF_ok hf has hat) (fun b hb => ha b (by simp [hb])) h
    have hva := hv (some (.int (a.2 : Int))) (some (pW a.1)) (some (.ref s.length))
    generalize hcc : Cn.mk _ _ _ _ _ = c'
    simp only [↓u_fnM, ↓u_mSeq, ↓u_mIfS, ↓u_mRet, ↓u_mRetN, ↓u_mSet, ↓u_mExpr, ↓u_mVar, ↓u_mK, ↓u_mBin, ↓u_mUn, ↓u_mChain, ↓u_mT, ↓u_mAnd, ↓u_mOr, ↓u_mNot, ↓u_bAnd, ↓u_bOr, ↓u_bNot, ↓u_mIf, ↓u_mFn, ↓u_mTup, ↓u_mLst, ↓u_mNew, ↓u_mCons, ↓u_mNil, ↓u_mCall, ↓u_mNext, ↓u_mAsg, ↓u_mFor, ↓u_mComp, ↓u_mCompN, ↓u_iSeqM, ↓u_mEnum, ↓u_mZip, ↓u_mPar2, ↓u_mPar3, ↓u_mPut, ↓u_mAug, ↓u_mAugS, ↓u_mBM, ↓u_mBM0, ↓u_mCallK, ↓u_mListRg, ↓u_mListRgN, ↓u_mTupRg, ↓u_mRg1, ↓u_mRg2, ↓u_iRngM1, ↓u_iRngM2, ↓u_pAt, ↓u_pNo, ↓u_mIsi, ↓u_mNever, ↓u_gtTp, ↓u_gtCons, ↓u_gtNil, ↓u_gtNm, ↓u_gtSub, ↓u_mBreak, ↓u_mCont, ↓u_mDisp, ↓u_bYes, ↓u_oI, ↓u_oB, ↓u_oIs, ↓u_oEqT, ↓u_seqT, ↓u_seqL, ↓u_seqS, ↓mSl_eq, slW_tup, slW_lst, List.map_cons, List.map_nil, List.length_cons, List.length_nil, List.cons_append, List.nil_append, List.getElem?_cons_zero, List.getElem?_cons_succ, List.set_cons_zero, List.set_cons_succ, List.replicate, Nat.reduceAdd, Nat.reduceSub, Nat.zero_add, if_true, Bool.false_eq_true, if_false, Bool.true_eq_false, reduceIte, roundB, hva, px0, px1, ne_opt]
    by_cases h1 : some a.2 = o
    · have e1 : stepF o f a = f := by unfold stepF; simp [h1]
      simp only [h1, ne_eq, not_true_eq_false, decide_false, Bool.false_eq_true, if_false]
      rw [e1] at hgo
      subst hcc; exact hgo _ _
    · simp only [h1, ne_eq, not_false_eq_true, decide_true, if_true]
      refine ⟨trivial, a.1, rfl, ?_⟩
      cases hop : a.1.op with
      | false =>
        have e1 : stepF o f a = f := by unfold stepF; simp [hop]
        simp only [Bool.false_eq_true, if_false]
        rw [e1] at hgo
        subst hcc; exact hgo _ _
      | true =>
        simp only [if_true]
        refine in_nats in_last ?_
        refine in_nats in_last ?_
        rw [eq_bl]
        simp only [Bool.false_bne]
        cases hx : crossP f a.1 with
        | false =>
          have e1 : stepF o f a = f := by unfold stepF; simp [hx]
          have e2 : (true != (decide (a.1.s ∈ f) == decide (a.1.t ∈ f))) = false := by
            unfold crossP at hx
            by_cases z1 : a.1.s ∈ f <;> by_cases z2 : a.1.t ∈ f <;> simp_all
          simp only [e2, Bool.false_eq_true, if_false]
          rw [e1] at hgo
          subst hcc; exact hgo _ _
        | true =>
          have e1 : stepF o f a = f ++ [if a.1.s ∈ f then a.1.t else a.1.s] := by unfold stepF; simp [hx, hop, h1]
          have e2 : (true != (decide (a.1.s ∈ f) == decide (a.1.t ∈ f))) = true := by
            unfold crossP at hx
            by_cases z1 : a.1.s ∈ f <;> by_cases z2 : a.1.t ∈ f <;> simp_all
          simp only [e2, if_true]
          refine ⟨by simp [isLst, lstOf], ?_⟩
          refine in_nats in_last ?_
          simp only [Bool.false_bne]
          have hsz : (nW f).length < sizeLine := by rw [List.length_map, sizeLine_eq]; omega
          rw [e1] at hgo
          by_cases hs : a.1.s ∈ f
          · simp only [hs, decide_true, if_true] at hgo ⊢
            refine append_last hsz ?_
            subst hcc
            simpa using hgo _ _
          · simp only [hs, decide_false, if_false, Bool.false_eq_true] at hgo ⊢
            refine append_last hsz ?_
            subst hcc
            simpa using hgo _ _
end Fw

set_option maxRecDepth 100000
set_option maxHeartbeats 4000000
namespace Fw
open PySem PySem.Spec PyProof.Rows L2

/-! ## far_part -/
def rndN (o : Option Nat) (ps : List Pipe) : Nat → List Nat → List Nat
  | 0, f => f
  | k + 1, f => rndN o ps k (rndF o ps f)
theorem rndN_fix {o : Option Nat} {ps : List Pipe} {f : List Nat} (h : rndF o ps f = f) : ∀ k, rndN o ps k f = f
  | 0 => rfl
  | k + 1 => by rw [rndN, h]; exact rndN_fix h k
theorem rndN_add {o : Option Nat} {ps : List Pipe} : ∀ (i j : Nat) (f : List Nat), rndN o ps (i + j) f = rndN o ps j (rndN o ps i f)
  | 0, j, f => by rw [Nat.zero_add]; rfl
  | i + 1, j, f => by rw [Nat.succ_add]; exact rndN_add i j _
theorem foldF_app {o : Option Nat} : ∀ (as : List (Pipe × Nat)) (f : List Nat), ∃ t, as.foldl (stepF o) f = f ++ t
  | [], f => ⟨[], by simp⟩
  | a :: as, f => by
    obtain ⟨t, ht⟩ := foldF_app as (stepF o f a)
    have : ∃ u, stepF o f a = f ++ u := by
      unfold stepF; split
      · exact ⟨_, rfl⟩
      · exact ⟨[], by simp⟩
    obtain ⟨u, hu⟩ := this
    exact ⟨u ++ t, by rw [List.foldl_cons, ht, hu, List.append_assoc]⟩
theorem rndF_same {o : Option Nat} {ps : List Pipe} {f : List Nat} (h : (rndF o ps f).length = f.length) : rndF o ps f = f := by
  obtain ⟨t, ht⟩ := foldF_app (o := o) (enP ps) f
  have h1 : rndF o ps f = f ++ t := ht
  rw [h1] at h ⊢
  simp at h
  simp [h]
theorem rndF_le {o : Option Nat} {ps : List Pipe} {f : List Nat} : f.length ≤ (rndF o ps f).length := foldF_le _ _
theorem rndF_ok {n : Nat} {o : Option Nat} {ps : List Pipe} {f : List Nat} (h : FOk n f) (hp : ∀ p ∈ ps, p.s < n ∧ p.t < n) : FOk n (rndF o ps f) :=
  foldF_ok _ _ h fun a ha => hp a.1 (List.fst_mem_of_mem_zipIdx ha)
theorem rndN_ok {n : Nat} {o : Option Nat} {ps : List Pipe} (hp : ∀ p ∈ ps, p.s < n ∧ p.t < n) : ∀ (k : Nat) {f : List Nat}, FOk n f → FOk n (rndN o ps k f)
  | 0, _, h => h
  | k + 1, _, h => rndN_ok hp k (rndF_ok h hp)
/-- what x is joined with, the pipe o left out -/
def clo (N : Net) (o : Option Nat) (x : Nat) : List Nat := rndN o N.ps N.n [x]
theorem Valid.ends {N : Net} (V : Valid N) : ∀ p ∈ N.ps, p.s < N.n ∧ p.t < N.n := fun p hp => ⟨(V.ok p hp).s, (V.ok p hp).t⟩
theorem fok_one {n x : Nat} (h : x < n) : FOk n [x] := ⟨by simp, by simpa using h⟩
theorem clo_ok {N : Net} (V : Valid N) {o : Option Nat} {x : Nat} (h : x < N.n) : FOk N.n (clo N o x) := rndN_ok V.ends _ (fok_one h)
theorem b1_far : t_far_part_b1 sp_is_open_pipe = roundB 1 sp_is_open_pipe := rfl
theorem far_while {N : Net} {s : S} {c : Cn} {i x : Nat} (V : Valid N) : ∀ (m j : Nat) (f : List Nat) (size : Nat) (x5 x6 : Option W), f = rndN (some i) N.ps j [x] → j ≤ size → size ≤ f.length → (size = f.length → rndF (some i) N.ps f = f) → FOk N.n f → N.n + 2 ≤ m + size →
    (∀ x4 x5 x6, c.nx [some (netW N), some (.int i), some (.tup (N.ps.map pW)), some (.ref s.length), x4, x5, x6] (s ++ [.lst (nW (clo N (some i) x))])) →
    whileN (mT (mBin oLt (mVar 4) (mFn oLen (mCons (mVar 3) mNil)))) (t_far_part_b2 sp_is_open_pipe) m [some (netW N), some (.int i), some (.tup (N.ps.map pW)), some (.ref s.length), some (.int (size : Int)), x5, x6] (s ++ [.lst (nW f)]) c
  | 0, j, f, size, x5, x6, _, _, h2, _, h4, h5, _ => by
    have := h4.len
    omega
  | m + 1, j, f, size, x5, x6, h0, h1, h2, h3, h4, h5, h => by
    have hl := h4.len
    have n24 := V.n24
    unfold whileN
    simp only [↓u_fnM, ↓u_mSeq, ↓u_mIfS, ↓u_mRet, ↓u_mRetN, ↓u_mSet, ↓u_mExpr, ↓u_mVar, ↓u_mK, ↓u_mBin, ↓u_mUn, ↓u_mChain, ↓u_mT, ↓u_mAnd, ↓u_mOr, ↓u_mNot, ↓u_bAnd, ↓u_bOr, ↓u_bNot, ↓u_mIf, ↓u_mFn, ↓u_mTup, ↓u_mLst, ↓u_mNew, ↓u_mCons, ↓u_mNil, ↓u_mCall, ↓u_mNext, ↓u_mAsg, ↓u_mFor, ↓u_mComp, ↓u_mCompN, ↓u_iSeqM, ↓u_mEnum, ↓u_mZip, ↓u_mPar2, ↓u_mPar3, ↓u_mPut, ↓u_mAug, ↓u_mAugS, ↓u_mBM, ↓u_mBM0, ↓u_mCallK, ↓u_mListRg, ↓u_mListRgN, ↓u_mTupRg, ↓u_mRg1, ↓u_mRg2, ↓u_iRngM1, ↓u_iRngM2, ↓u_pAt, ↓u_pNo, ↓u_mIsi, ↓u_mNever, ↓u_gtTp, ↓u_gtCons, ↓u_gtNil, ↓u_gtNm, ↓u_gtSub, ↓u_mBreak, ↓u_mCont, ↓u_mDisp, ↓u_bYes, ↓u_oI, ↓u_oB, ↓u_oIs, ↓u_oEqT, ↓u_seqT, ↓u_seqL, ↓u_seqS, ↓mSl_eq, slW_tup, slW_lst, List.map_cons, List.map_nil, List.length_cons, List.length_nil, List.cons_append, List.nil_append, List.getElem?_cons_zero, List.getElem?_cons_succ, List.set_cons_zero, List.set_cons_succ, List.replicate, Nat.reduceAdd, Nat.reduceSub, Nat.zero_add, if_true, Bool.false_eq_true, if_false, Bool.true_eq_false, reduceIte, oLen, lenOf, itemsOf, get_last, Option.map_some, List.length_map]
    by_cases hlt : size < f.length
    · have hlt' : ((size : Nat) : Int) < (f.length : Nat) := by omega
      simp only [hlt', decide_true, if_true]
      generalize hcc : Cn.mk _ _ _ _ _ = c'
      simp only [↓u_fnM, ↓u_mSeq, ↓u_mIfS, ↓u_mRet, ↓u_mRetN, ↓u_mSet, ↓u_mExpr, ↓u_mVar, ↓u_mK, ↓u_mBin, ↓u_mUn, ↓u_mChain, ↓u_mT, ↓u_mAnd, ↓u_mOr, ↓u_mNot, ↓u_bAnd, ↓u_bOr, ↓u_bNot, ↓u_mIf, ↓u_mFn, ↓u_mTup, ↓u_mLst, ↓u_mNew, ↓u_mCons, ↓u_mNil, ↓u_mCall, ↓u_mNext, ↓u_mAsg, ↓u_mFor, ↓u_mComp, ↓u_mCompN, ↓u_iSeqM, ↓u_mEnum, ↓u_mZip, ↓u_mPar2, ↓u_mPar3, ↓u_mPut, ↓u_mAug, ↓u_mAugS, ↓u_mBM, ↓u_mBM0, ↓u_mCallK, ↓u_mListRg, ↓u_mListRgN, ↓u_mTupRg, ↓u_mRg1, ↓u_mRg2, ↓u_iRngM1, ↓u_iRngM2, ↓u_pAt, ↓u_pNo, ↓u_mIsi, ↓u_mNever, ↓u_gtTp, ↓u_gtCons, ↓u_gtNil, ↓u_gtNm, ↓u_gtSub, ↓u_mBreak, ↓u_mCont, ↓u_mDisp, ↓u_bYes, ↓u_oI, ↓u_oB, ↓u_oIs, ↓u_oEqT, ↓u_seqT, ↓u_seqL, ↓u_seqS, ↓mSl_eq, slW_tup, slW_lst, List.map_cons, List.map_nil, List.length_cons, List.length_nil, List.cons_append, List.nil_append, List.getElem?_cons_zero, List.getElem?_cons_succ, List.set_cons_zero, List.set_cons_succ, List.replicate, Nat.reduceAdd, Nat.reduceSub, Nat.zero_add, if_true, Bool.false_eq_true, if_false, Bool.true_eq_false, reduceIte, t_far_part_b2, oLen, lenOf, itemsOf, get_last, Option.map_some, List.length_map, seqVals, enum_map, b1_far]
      refine round_loop (v := 1) (o := some i) (n := N.n) (by omega) (fun _ _ _ => rfl) (enP N.ps) f x5 x6 h4 (fun a ha => V.ends a.1 (List.fst_mem_of_mem_zipIdx ha)) fun y5 y6 => ?_
      subst hcc
      have e1 : rndF (some i) N.ps f = rndN (some i) N.ps (j + 1) [x] := by rw [rndN_add, ← h0]; rfl
      exact far_while V m (j + 1) (rndF (some i) N.ps f) f.length y5 y6 e1 (by omega) rndF_le (fun z => by
        have := rndF_same z.symm
        rw [this]; exact this) (rndF_ok h4 V.ends) (by omega) h
    · have hlt' : ¬ ((size : Nat) : Int) < (f.length : Nat) := by omega
      simp only [hlt', decide_false, Bool.false_eq_true, if_false]
      have e2 : size = f.length := by omega
      have hfix := h3 e2
      have : clo N (some i) x = f := by
        unfold clo
        have hj : j ≤ N.n := by omega
        rw [show N.n = j + (N.n - j) by omega, rndN_add, ← h0, rndN_fix hfix]
      have := h (some (.int (size : Int))) x5 x6
      rw [‹clo N (some i) x = f›] at this
      exact this
def sortN (f : List Nat) : List Nat := f.mergeSort (fun a b => decide (a ≤ b))
theorem sort_cast (f : List Nat) : sortI (f.map fun (i : Nat) => (i : Int)) = (sortN f).map fun (i : Nat) => (i : Int) := by
  refine (sortI_is ?_ ?_).symm
  · exact (List.mergeSort_perm _ _).map _
  · have k2 : (sortN f).Pairwise (fun a b => decide (a ≤ b) = true) := List.pairwise_mergeSort (by intro a b c; simp; omega) (by intro a b; simp; omega) _
    rw [List.pairwise_map]
    exact k2.imp (by simp)
theorem mem_sortN {f : List Nat} {x : Nat} : x ∈ sortN f ↔ x ∈ f := (List.mergeSort_perm f _).mem_iff
theorem nW_map (f : List Nat) : (f.map fun (i : Nat) => (i : Int)).map W.int = nW f := by simp
theorem intsOf_nats (f : List Nat) : intsOf (nW f) = some (f.map fun (i : Nat) => (i : Int)) := by rw [← nW_map]; exact intsOf_ints _
theorem frz_nats {k : Nat} {s : S} : ∀ f : List Nat, Frzs k s (nW f) (nW f)
  | [] => .nil
  | n :: f => .cons .int (frz_nats f)
def sp_far_part : FT := fun ws s q _ => ∃ N i p, ws = [netW N, .int (i : Nat)] ∧ Valid N ∧ N.ps[i]? = some p ∧ q (.tup (nW (sortN (clo N (some i) p.s)))) s
theorem ok_far_part : ∀ ws s q e, sp_far_part ws s q e → gc (fnM 7 (t_far_part sp_is_open_pipe)) ws s q e := by
  rintro ws s q e ⟨N, i, p, rfl, V, hp, h⟩
  have hps := V.ends p (List.mem_of_getElem? hp)
  show fnM 7 (t_far_part sp_is_open_pipe) _ s _ _
  simp only [↓u_fnM, ↓u_mSeq, ↓u_mIfS, ↓u_mRet, ↓u_mRetN, ↓u_mSet, ↓u_mExpr, ↓u_mVar, ↓u_mK, ↓u_mBin, ↓u_mUn, ↓u_mChain, ↓u_mT, ↓u_mAnd, ↓u_mOr, ↓u_mNot, ↓u_bAnd, ↓u_bOr, ↓u_bNot, ↓u_mIf, ↓u_mFn, ↓u_mTup, ↓u_mLst, ↓u_mNew, ↓u_mCons, ↓u_mNil, ↓u_mCall, ↓u_mNext, ↓u_mAsg, ↓u_mFor, ↓u_mComp, ↓u_mCompN, ↓u_iSeqM, ↓u_mEnum, ↓u_mZip, ↓u_mPar2, ↓u_mPar3, ↓u_mPut, ↓u_mAug, ↓u_mAugS, ↓u_mBM, ↓u_mBM0, ↓u_mCallK, ↓u_mListRg, ↓u_mListRgN, ↓u_mTupRg, ↓u_mRg1, ↓u_mRg2, ↓u_iRngM1, ↓u_iRngM2, ↓u_pAt, ↓u_pNo, ↓u_mIsi, ↓u_mNever, ↓u_gtTp, ↓u_gtCons, ↓u_gtNil, ↓u_gtNm, ↓u_gtSub, ↓u_mBreak, ↓u_mCont, ↓u_mDisp, ↓u_bYes, ↓u_oI, ↓u_oB, ↓u_oIs, ↓u_oEqT, ↓u_seqT, ↓u_seqL, ↓u_seqS, ↓mSl_eq, slW_tup, slW_lst, List.map_cons, List.map_nil, List.length_cons, List.length_nil, List.cons_append, List.nil_append, List.getElem?_cons_zero, List.getElem?_cons_succ, List.set_cons_zero, List.set_cons_succ, List.replicate, Nat.reduceAdd, Nat.reduceSub, Nat.zero_add, if_true, Bool.false_eq_true, if_false, Bool.true_eq_false, reduceIte, t_far_part, nx2]
  refine ix_pipe hp ?_
  simp only [px0]
  refine ⟨by show 1 ≤ sizeLine; decide, N.n + 2, ?_⟩
  refine far_while (x := p.s) V (N.n + 2) 0 [p.s] 0 none none rfl (by omega) (by simp) (fun z => by simp at z) (fok_one hps.1) (by omega) fun x4 x5 x6 => ?_
  simp only [↓u_fnM, ↓u_mSeq, ↓u_mIfS, ↓u_mRet, ↓u_mRetN, ↓u_mSet, ↓u_mExpr, ↓u_mVar, ↓u_mK, ↓u_mBin, ↓u_mUn, ↓u_mChain, ↓u_mT, ↓u_mAnd, ↓u_mOr, ↓u_mNot, ↓u_bAnd, ↓u_bOr, ↓u_bNot, ↓u_mIf, ↓u_mFn, ↓u_mTup, ↓u_mLst, ↓u_mNew, ↓u_mCons, ↓u_mNil, ↓u_mCall, ↓u_mNext, ↓u_mAsg, ↓u_mFor, ↓u_mComp, ↓u_mCompN, ↓u_iSeqM, ↓u_mEnum, ↓u_mZip, ↓u_mPar2, ↓u_mPar3, ↓u_mPut, ↓u_mAug, ↓u_mAugS, ↓u_mBM, ↓u_mBM0, ↓u_mCallK, ↓u_mListRg, ↓u_mListRgN, ↓u_mTupRg, ↓u_mRg1, ↓u_mRg2, ↓u_iRngM1, ↓u_iRngM2, ↓u_pAt, ↓u_pNo, ↓u_mIsi, ↓u_mNever, ↓u_gtTp, ↓u_gtCons, ↓u_gtNil, ↓u_gtNm, ↓u_gtSub, ↓u_mBreak, ↓u_mCont, ↓u_mDisp, ↓u_bYes, ↓u_oI, ↓u_oB, ↓u_oIs, ↓u_oEqT, ↓u_seqT, ↓u_seqL, ↓u_seqS, ↓mSl_eq, slW_tup, slW_lst, List.map_cons, List.map_nil, List.length_cons, List.length_nil, List.cons_append, List.nil_append, List.getElem?_cons_zero, List.getElem?_cons_succ, List.set_cons_zero, List.set_cons_succ, List.replicate, Nat.reduceAdd, Nat.reduceSub, Nat.zero_add, if_true, Bool.false_eq_true, if_false, Bool.true_eq_false, reduceIte, oSorted, liOf, lstOf, get_last, Option.bind_some, intsOf_nats, sort_cast, nW_map, oTuple, seqVals, itemsOf]
  exact gcQ.same (.tup (frz_nats _)) h
end Fw

set_option maxRecDepth 100000
set_option maxHeartbeats 4000000
namespace Fw
open PySem PySem.Spec PyProof.Rows L2

/-! ## residues -/
def resV (N : Net) (a : Pipe × Nat) : Int := if a.1.op then tot N (sortN (clo N (some a.2) a.1.s)) else shown N.b a.1
def resL (N : Net) : List Int := (enP N.ps).map (resV N)
def Bal (N : Net) (L : List Nat) : Prop := ∀ g ∈ groupsL N.n L, tot N g = 0
theorem group_loop {N : Net} {s : S} {c : Cn} {x2 x3 x4 : Option W} (V : Valid N) : ∀ (gs : List (List Nat)) (x1 : Option W), (∀ g ∈ gs, tot N g = 0) → (∀ x1, c.nx [some (netW N), x1, x2, x3, x4] s) →
    forL (.nm 1) (t_residues_of_b1 sp_groups_of sp_closed_sum sp_is_open_pipe sp_far_part sp_closed_residue) [] (gs.map fun g => .tup (nW g)) [some (netW N), x1, x2, x3, x4] s c
  | [], x1, _, h => ⟨fun _ h => by simp at h, h x1⟩
  | g :: gs, x1, hg, h => by
    refine ⟨fun _ h => by simp at h, ?_⟩
    have h0 := hg g (by simp)
    simp only [asg, List.set_cons_succ, List.set_cons_zero]
    generalize hcc : Cn.mk _ _ _ _ _ = c'
    simp only [↓u_fnM, ↓u_mSeq, ↓u_mIfS, ↓u_mRet, ↓u_mRetN, ↓u_mSet, ↓u_mExpr, ↓u_mVar, ↓u_mK, ↓u_mBin, ↓u_mUn, ↓u_mChain, ↓u_mT, ↓u_mAnd, ↓u_mOr, ↓u_mNot, ↓u_bAnd, ↓u_bOr, ↓u_bNot, ↓u_mIf, ↓u_mFn, ↓u_mTup, ↓u_mLst, ↓u_mNew, ↓u_mCons, ↓u_mNil, ↓u_mCall, ↓u_mNext, ↓u_mAsg, ↓u_mFor, ↓u_mComp, ↓u_mCompN, ↓u_iSeqM, ↓u_mEnum, ↓u_mZip, ↓u_mPar2, ↓u_mPar3, ↓u_mPut, ↓u_mAug, ↓u_mAugS, ↓u_mBM, ↓u_mBM0, ↓u_mCallK, ↓u_mListRg, ↓u_mListRgN, ↓u_mTupRg, ↓u_mRg1, ↓u_mRg2, ↓u_iRngM1, ↓u_iRngM2, ↓u_pAt, ↓u_pNo, ↓u_mIsi, ↓u_mNever, ↓u_gtTp, ↓u_gtCons, ↓u_gtNil, ↓u_gtNm, ↓u_gtSub, ↓u_mBreak, ↓u_mCont, ↓u_mDisp, ↓u_bYes, ↓u_oI, ↓u_oB, ↓u_oIs, ↓u_oEqT, ↓u_seqT, ↓u_seqL, ↓u_seqS, ↓mSl_eq, slW_tup, slW_lst, List.map_cons, List.map_nil, List.length_cons, List.length_nil, List.cons_append, List.nil_append, List.getElem?_cons_zero, List.getElem?_cons_succ, List.set_cons_zero, List.set_cons_succ, List.replicate, Nat.reduceAdd, Nat.reduceSub, Nat.zero_add, if_true, Bool.false_eq_true, if_false, Bool.true_eq_false, reduceIte, t_residues_of_b1]
    refine ⟨trivial, N, _, g, rfl, V, .inl rfl, ?_⟩
    rw [h0]
    simp only [eq_int, decide_true, bne_self_eq_false, Bool.false_eq_true, if_false]
    subst hcc
    exact group_loop V gs _ (fun g' hg' => hg g' (by simp [hg'])) h
theorem res_loop {N : Net} {s : S} {c : Cn} {x1 : Option W} (V : Valid N) : ∀ (as : List (Pipe × Nat)) (acc : List Int) (x3 x4 : Option W), (∀ a ∈ as, N.ps[a.2]? = some a.1) → acc.length + as.length ≤ 1000 →
    (∀ x3 x4, c.nx [some (netW N), x1, some (.ref s.length), x3, x4] (s ++ [.lst ((acc ++ as.map (resV N)).map W.int)])) →
    forL (.tp [.nm 3, .nm 4]) (t_residues_of_b2 sp_groups_of sp_closed_sum sp_is_open_pipe sp_far_part sp_closed_residue) [] (as.map eW) [some (netW N), x1, some (.ref s.length), x3, x4] (s ++ [.lst (acc.map W.int)]) c
  | [], acc, x3, x4, _, _, h => ⟨fun _ h => by simp at h, by simpa using h x3 x4⟩
  | a :: as, acc, x3, x4, ha, hl, h => by
    refine ⟨fun _ h => by simp at h, ?_⟩
    have ea := ha a (by simp)
    have b2 := V.b2
    have hsz : (acc.map W.int).length < sizeLine := by rw [List.length_map, sizeLine_eq]; simp at hl; omega
    simp only [asg, asgs, itemsOf, List.length_cons, List.length_nil, if_true, List.set_cons_succ, List.set_cons_zero]
    have hgo : ∀ x3 x4, forL (.tp [.nm 3, .nm 4]) (t_residues_of_b2 sp_groups_of sp_closed_sum sp_is_open_pipe sp_far_part sp_closed_residue) [] (as.map eW) [some (netW N), x1, some (.ref s.length), x3, x4] (s ++ [.lst ((acc ++ [resV N a]).map W.int)]) c := fun x3 x4 =>
      res_loop V as (acc ++ [resV N a]) x3 x4 (fun b hb => ha b (by simp [hb])) (by simp at hl ⊢; omega) (by simpa using h)
    generalize hcc : Cn.mk _ _ _ _ _ = c'
    simp only [↓u_fnM, ↓u_mSeq, ↓u_mIfS, ↓u_mRet, ↓u_mRetN, ↓u_mSet, ↓u_mExpr, ↓u_mVar, ↓u_mK, ↓u_mBin, ↓u_mUn, ↓u_mChain, ↓u_mT, ↓u_mAnd, ↓u_mOr, ↓u_mNot, ↓u_bAnd, ↓u_bOr, ↓u_bNot, ↓u_mIf, ↓u_mFn, ↓u_mTup, ↓u_mLst, ↓u_mNew, ↓u_mCons, ↓u_mNil, ↓u_mCall, ↓u_mNext, ↓u_mAsg, ↓u_mFor, ↓u_mComp, ↓u_mCompN, ↓u_iSeqM, ↓u_mEnum, ↓u_mZip, ↓u_mPar2, ↓u_mPar3, ↓u_mPut, ↓u_mAug, ↓u_mAugS, ↓u_mBM, ↓u_mBM0, ↓u_mCallK, ↓u_mListRg, ↓u_mListRgN, ↓u_mTupRg, ↓u_mRg1, ↓u_mRg2, ↓u_iRngM1, ↓u_iRngM2, ↓u_pAt, ↓u_pNo, ↓u_mIsi, ↓u_mNever, ↓u_gtTp, ↓u_gtCons, ↓u_gtNil, ↓u_gtNm, ↓u_gtSub, ↓u_mBreak, ↓u_mCont, ↓u_mDisp, ↓u_bYes, ↓u_oI, ↓u_oB, ↓u_oIs, ↓u_oEqT, ↓u_seqT, ↓u_seqL, ↓u_seqS, ↓mSl_eq, slW_tup, slW_lst, List.map_cons, List.map_nil, List.length_cons, List.length_nil, List.cons_append, List.nil_append, List.getElem?_cons_zero, List.getElem?_cons_succ, List.set_cons_zero, List.set_cons_succ, List.replicate, Nat.reduceAdd, Nat.reduceSub, Nat.zero_add, if_true, Bool.false_eq_true, if_false, Bool.true_eq_false, reduceIte, t_residues_of_b2, nx0]
    refine ⟨trivial, a.1, rfl, ?_⟩
    cases hop : a.1.op with
    | true =>
      simp only [if_true]
      refine ⟨by simp [isLst, lstOf], trivial, N, a.2, a.1, rfl, V, ea, ?_⟩
      refine ⟨trivial, N, _, _, rfl, V, .inl rfl, append_last hsz ?_⟩
      subst hcc
      have := hgo (some (.int (a.2 : Int))) (some (pW a.1))
      simpa [resV, hop] using this
    | false =>
      simp only [Bool.false_eq_true, if_false]
      refine ⟨by simp [isLst, lstOf], trivial, N.b, a.1, rfl, by omega, append_last hsz ?_⟩
      subst hcc
      have := hgo (some (.int (a.2 : Int))) (some (pW a.1))
      simpa [resV, hop] using this
theorem frz_ints {k : Nat} {s : S} : ∀ f : List Int, Frzs k s (f.map W.int) (f.map W.int)
  | [] => .nil
  | n :: f => .cons .int (frz_ints f)
def sp_residues : FT := fun ws s q _ => ∃ N L, ws = [netW N] ∧ Valid N ∧ treesOf N.n N.ops = some L ∧ Bal N L ∧ q (.tup ((resL N).map W.int)) s
theorem ok_residues_of : ∀ ws s q e, sp_residues ws s q e → gc (fnM 5 (t_residues_of sp_groups_of sp_closed_sum sp_is_open_pipe sp_far_part sp_closed_residue)) ws s q e := by
  rintro ws s q e ⟨N, L, rfl, V, hL, hB, h⟩
  have hlen := V.len
  show fnM 5 (t_residues_of sp_groups_of sp_closed_sum sp_is_open_pipe sp_far_part sp_closed_residue) _ s _ _
  refine ⟨rfl, N, L, rfl, V, hL, ?_⟩
  refine group_loop V (groupsL N.n L) none hB fun x1 => ?_
  refine ⟨by show 0 ≤ sizeLine; omega, ?_⟩
  simp only [↓u_fnM, ↓u_mSeq, ↓u_mIfS, ↓u_mRet, ↓u_mRetN, ↓u_mSet, ↓u_mExpr, ↓u_mVar, ↓u_mK, ↓u_mBin, ↓u_mUn, ↓u_mChain, ↓u_mT, ↓u_mAnd, ↓u_mOr, ↓u_mNot, ↓u_bAnd, ↓u_bOr, ↓u_bNot, ↓u_mIf, ↓u_mFn, ↓u_mTup, ↓u_mLst, ↓u_mNew, ↓u_mCons, ↓u_mNil, ↓u_mCall, ↓u_mNext, ↓u_mAsg, ↓u_mFor, ↓u_mComp, ↓u_mCompN, ↓u_iSeqM, ↓u_mEnum, ↓u_mZip, ↓u_mPar2, ↓u_mPar3, ↓u_mPut, ↓u_mAug, ↓u_mAugS, ↓u_mBM, ↓u_mBM0, ↓u_mCallK, ↓u_mListRg, ↓u_mListRgN, ↓u_mTupRg, ↓u_mRg1, ↓u_mRg2, ↓u_iRngM1, ↓u_iRngM2, ↓u_pAt, ↓u_pNo, ↓u_mIsi, ↓u_mNever, ↓u_gtTp, ↓u_gtCons, ↓u_gtNil, ↓u_gtNm, ↓u_gtSub, ↓u_mBreak, ↓u_mCont, ↓u_mDisp, ↓u_bYes, ↓u_oI, ↓u_oB, ↓u_oIs, ↓u_oEqT, ↓u_seqT, ↓u_seqL, ↓u_seqS, ↓mSl_eq, slW_tup, slW_lst, List.map_cons, List.map_nil, List.length_cons, List.length_nil, List.cons_append, List.nil_append, List.getElem?_cons_zero, List.getElem?_cons_succ, List.set_cons_zero, List.set_cons_succ, List.replicate, Nat.reduceAdd, Nat.reduceSub, Nat.zero_add, if_true, Bool.false_eq_true, if_false, Bool.true_eq_false, reduceIte, nx2, seqVals, itemsOf, enum_map]
  refine res_loop V (enP N.ps) [] none none (fun a ha => List.mem_zipIdx_iff_getElem?.mp ha) (by simp [enP]; omega) fun x3 x4 => ?_
  simp only [↓u_fnM, ↓u_mSeq, ↓u_mIfS, ↓u_mRet, ↓u_mRetN, ↓u_mSet, ↓u_mExpr, ↓u_mVar, ↓u_mK, ↓u_mBin, ↓u_mUn, ↓u_mChain, ↓u_mT, ↓u_mAnd, ↓u_mOr, ↓u_mNot, ↓u_bAnd, ↓u_bOr, ↓u_bNot, ↓u_mIf, ↓u_mFn, ↓u_mTup, ↓u_mLst, ↓u_mNew, ↓u_mCons, ↓u_mNil, ↓u_mCall, ↓u_mNext, ↓u_mAsg, ↓u_mFor, ↓u_mComp, ↓u_mCompN, ↓u_iSeqM, ↓u_mEnum, ↓u_mZip, ↓u_mPar2, ↓u_mPar3, ↓u_mPut, ↓u_mAug, ↓u_mAugS, ↓u_mBM, ↓u_mBM0, ↓u_mCallK, ↓u_mListRg, ↓u_mListRgN, ↓u_mTupRg, ↓u_mRg1, ↓u_mRg2, ↓u_iRngM1, ↓u_iRngM2, ↓u_pAt, ↓u_pNo, ↓u_mIsi, ↓u_mNever, ↓u_gtTp, ↓u_gtCons, ↓u_gtNil, ↓u_gtNm, ↓u_gtSub, ↓u_mBreak, ↓u_mCont, ↓u_mDisp, ↓u_bYes, ↓u_oI, ↓u_oB, ↓u_oIs, ↓u_oEqT, ↓u_seqT, ↓u_seqL, ↓u_seqS, ↓mSl_eq, slW_tup, slW_lst, List.map_cons, List.map_nil, List.length_cons, List.length_nil, List.cons_append, List.nil_append, List.getElem?_cons_zero, List.getElem?_cons_succ, List.set_cons_zero, List.set_cons_succ, List.replicate, Nat.reduceAdd, Nat.reduceSub, Nat.zero_add, if_true, Bool.false_eq_true, if_false, Bool.true_eq_false, reduceIte, oTuple, seqVals, itemsOf, get_last]
  exact gcQ.same (.tup (frz_ints _)) (by simpa [resL] using h)
theorem ok_residues : ∀ ws s q e, sp_residues ws s q e → fnM 1 (t_residues sp_check_network sp_residues) ws s q e := by
  rintro ws s q e ⟨N, L, rfl, V, hL, hB, h⟩
  exact ⟨rfl, N, rfl, V, rfl, N, L, rfl, V, hL, hB, h⟩

/-! ## the law's own sums -/
theorem ok_law_is_wide : ∀ ws s q e, sp_is_open_pipe ws s q e → fnM 1 t_law_is_wide ws s q e := ok_is_open_pipe
def sp_law_ins : FT := fun ws s q _ => ∃ N w A, ws = [netW N, w] ∧ N.ps.length ≤ 60 ∧ NatSeq w s A ∧ q (.lst (nW (idxs N.ps (entC A)))) s
def sp_law_outs : FT := fun ws s q _ => ∃ N w A, ws = [netW N, w] ∧ N.ps.length ≤ 60 ∧ NatSeq w s A ∧ q (.lst (nW (idxs N.ps (leaC A)))) s
theorem ok_law_ins : ∀ ws s q e, sp_law_ins ws s q e → fnM 4 t_law_ins ws s q e := by
  rintro ws s q e ⟨N, w, A, rfl, hl, hA, h⟩
  simp only [↓u_fnM, ↓u_mSeq, ↓u_mIfS, ↓u_mRet, ↓u_mRetN, ↓u_mSet, ↓u_mExpr, ↓u_mVar, ↓u_mK, ↓u_mBin, ↓u_mUn, ↓u_mChain, ↓u_mT, ↓u_mAnd, ↓u_mOr, ↓u_mNot, ↓u_bAnd, ↓u_bOr, ↓u_bNot, ↓u_mIf, ↓u_mFn, ↓u_mTup, ↓u_mLst, ↓u_mNew, ↓u_mCons, ↓u_mNil, ↓u_mCall, ↓u_mNext, ↓u_mAsg, ↓u_mFor, ↓u_mComp, ↓u_mCompN, ↓u_iSeqM, ↓u_mEnum, ↓u_mZip, ↓u_mPar2, ↓u_mPar3, ↓u_mPut, ↓u_mAug, ↓u_mAugS, ↓u_mBM, ↓u_mBM0, ↓u_mCallK, ↓u_mListRg, ↓u_mListRgN, ↓u_mTupRg, ↓u_mRg1, ↓u_mRg2, ↓u_iRngM1, ↓u_iRngM2, ↓u_pAt, ↓u_pNo, ↓u_mIsi, ↓u_mNever, ↓u_gtTp, ↓u_gtCons, ↓u_gtNil, ↓u_gtNm, ↓u_gtSub, ↓u_mBreak, ↓u_mCont, ↓u_mDisp, ↓u_bYes, ↓u_oI, ↓u_oB, ↓u_oIs, ↓u_oEqT, ↓u_seqT, ↓u_seqL, ↓u_seqS, ↓mSl_eq, slW_tup, slW_lst, List.map_cons, List.map_nil, List.length_cons, List.length_nil, List.cons_append, List.nil_append, List.getElem?_cons_zero, List.getElem?_cons_succ, List.set_cons_zero, List.set_cons_succ, List.replicate, Nat.reduceAdd, Nat.reduceSub, Nat.zero_add, if_true, Bool.false_eq_true, if_false, Bool.true_eq_false, reduceIte, t_law_ins, nx2, seqVals, itemsOf, enum_map]
  refine comp_idx (c := entC A) (by decide) (by simp [wipeL]) (by simp [wipeL]) hl (fun a _ k e hk => ?_) h
  simp only [↓u_fnM, ↓u_mSeq, ↓u_mIfS, ↓u_mRet, ↓u_mRetN, ↓u_mSet, ↓u_mExpr, ↓u_mVar, ↓u_mK, ↓u_mBin, ↓u_mUn, ↓u_mChain, ↓u_mT, ↓u_mAnd, ↓u_mOr, ↓u_mNot, ↓u_bAnd, ↓u_bOr, ↓u_bNot, ↓u_mIf, ↓u_mFn, ↓u_mTup, ↓u_mLst, ↓u_mNew, ↓u_mCons, ↓u_mNil, ↓u_mCall, ↓u_mNext, ↓u_mAsg, ↓u_mFor, ↓u_mComp, ↓u_mCompN, ↓u_iSeqM, ↓u_mEnum, ↓u_mZip, ↓u_mPar2, ↓u_mPar3, ↓u_mPut, ↓u_mAug, ↓u_mAugS, ↓u_mBM, ↓u_mBM0, ↓u_mCallK, ↓u_mListRg, ↓u_mListRgN, ↓u_mTupRg, ↓u_mRg1, ↓u_mRg2, ↓u_iRngM1, ↓u_iRngM2, ↓u_pAt, ↓u_pNo, ↓u_mIsi, ↓u_mNever, ↓u_gtTp, ↓u_gtCons, ↓u_gtNil, ↓u_gtNm, ↓u_gtSub, ↓u_mBreak, ↓u_mCont, ↓u_mDisp, ↓u_bYes, ↓u_oI, ↓u_oB, ↓u_oIs, ↓u_oEqT, ↓u_seqT, ↓u_seqL, ↓u_seqS, ↓mSl_eq, slW_tup, slW_lst, List.map_cons, List.map_nil, List.length_cons, List.length_nil, List.cons_append, List.nil_append, List.getElem?_cons_zero, List.getElem?_cons_succ, List.set_cons_zero, List.set_cons_succ, List.replicate, Nat.reduceAdd, Nat.reduceSub, Nat.zero_add, if_true, Bool.false_eq_true, if_false, Bool.true_eq_false, reduceIte, wipeL, px0, px1]
  refine in_nats hA ?_
  unfold entC at hk
  by_cases h1 : a.1.t ∈ A
  · simp only [h1, decide_true, Bool.false_bne, if_true]
    refine in_nats hA ?_
    simpa [h1] using hk
  · simpa [h1] using hk
theorem ok_law_outs : ∀ ws s q e, sp_law_outs ws s q e → fnM 4 t_law_outs ws s q e := by
  rintro ws s q e ⟨N, w, A, rfl, hl, hA, h⟩
  simp only [↓u_fnM, ↓u_mSeq, ↓u_mIfS, ↓u_mRet, ↓u_mRetN, ↓u_mSet, ↓u_mExpr, ↓u_mVar, ↓u_mK, ↓u_mBin, ↓u_mUn, ↓u_mChain, ↓u_mT, ↓u_mAnd, ↓u_mOr, ↓u_mNot, ↓u_bAnd, ↓u_bOr, ↓u_bNot, ↓u_mIf, ↓u_mFn, ↓u_mTup, ↓u_mLst, ↓u_mNew, ↓u_mCons, ↓u_mNil, ↓u_mCall, ↓u_mNext, ↓u_mAsg, ↓u_mFor, ↓u_mComp, ↓u_mCompN, ↓u_iSeqM, ↓u_mEnum, ↓u_mZip, ↓u_mPar2, ↓u_mPar3, ↓u_mPut, ↓u_mAug, ↓u_mAugS, ↓u_mBM, ↓u_mBM0, ↓u_mCallK, ↓u_mListRg, ↓u_mListRgN, ↓u_mTupRg, ↓u_mRg1, ↓u_mRg2, ↓u_iRngM1, ↓u_iRngM2, ↓u_pAt, ↓u_pNo, ↓u_mIsi, ↓u_mNever, ↓u_gtTp, ↓u_gtCons, ↓u_gtNil, ↓u_gtNm, ↓u_gtSub, ↓u_mBreak, ↓u_mCont, ↓u_mDisp, ↓u_bYes, ↓u_oI, ↓u_oB, ↓u_oIs, ↓u_oEqT, ↓u_seqT, ↓u_seqL, ↓u_seqS, ↓mSl_eq, slW_tup, slW_lst, List.map_cons, List.map_nil, List.length_cons, List.length_nil, List.cons_append, List.nil_append, List.getElem?_cons_zero, List.getElem?_cons_succ, List.set_cons_zero, List.set_cons_succ, List.replicate, Nat.reduceAdd, Nat.reduceSub, Nat.zero_add, if_true, Bool.false_eq_true, if_false, Bool.true_eq_false, reduceIte, t_law_outs, nx2, seqVals, itemsOf, enum_map]
  refine comp_idx (c := leaC A) (by decide) (by simp [wipeL]) (by simp [wipeL]) hl (fun a _ k e hk => ?_) h
  simp only [↓u_fnM, ↓u_mSeq, ↓u_mIfS, ↓u_mRet, ↓u_mRetN, ↓u_mSet, ↓u_mExpr, ↓u_mVar, ↓u_mK, ↓u_mBin, ↓u_mUn, ↓u_mChain, ↓u_mT, ↓u_mAnd, ↓u_mOr, ↓u_mNot, ↓u_bAnd, ↓u_bOr, ↓u_bNot, ↓u_mIf, ↓u_mFn, ↓u_mTup, ↓u_mLst, ↓u_mNew, ↓u_mCons, ↓u_mNil, ↓u_mCall, ↓u_mNext, ↓u_mAsg, ↓u_mFor, ↓u_mComp, ↓u_mCompN, ↓u_iSeqM, ↓u_mEnum, ↓u_mZip, ↓u_mPar2, ↓u_mPar3, ↓u_mPut, ↓u_mAug, ↓u_mAugS, ↓u_mBM, ↓u_mBM0, ↓u_mCallK, ↓u_mListRg, ↓u_mListRgN, ↓u_mTupRg, ↓u_mRg1, ↓u_mRg2, ↓u_iRngM1, ↓u_iRngM2, ↓u_pAt, ↓u_pNo, ↓u_mIsi, ↓u_mNever, ↓u_gtTp, ↓u_gtCons, ↓u_gtNil, ↓u_gtNm, ↓u_gtSub, ↓u_mBreak, ↓u_mCont, ↓u_mDisp, ↓u_bYes, ↓u_oI, ↓u_oB, ↓u_oIs, ↓u_oEqT, ↓u_seqT, ↓u_seqL, ↓u_seqS, ↓mSl_eq, slW_tup, slW_lst, List.map_cons, List.map_nil, List.length_cons, List.length_nil, List.cons_append, List.nil_append, List.getElem?_cons_zero, List.getElem?_cons_succ, List.set_cons_zero, List.set_cons_succ, List.replicate, Nat.reduceAdd, Nat.reduceSub, Nat.zero_add, if_true, Bool.false_eq_true, if_false, Bool.true_eq_false, reduceIte, wipeL, px0, px1]
  refine in_nats hA ?_
  unfold leaC at hk
  by_cases h1 : a.1.s ∈ A
  · simp only [h1, decide_true, Bool.false_bne, if_true]
    refine in_nats hA ?_
    simpa [h1] using hk
  · simpa [h1] using hk
def sp_law_shown : FT := fun ws s q _ => ∃ N p, ws = [netW N, pW p] ∧ 0 < N.b ∧ q (.int (shown N.b p)) s
theorem ok_law_shown : ∀ ws s q e, sp_law_shown ws s q e → fnM 2 t_law_shown ws s q e := by
  rintro ws s q e ⟨N, p, rfl, hb, h⟩
  simp only [↓u_fnM, ↓u_mSeq, ↓u_mIfS, ↓u_mRet, ↓u_mRetN, ↓u_mSet, ↓u_mExpr, ↓u_mVar, ↓u_mK, ↓u_mBin, ↓u_mUn, ↓u_mChain, ↓u_mT, ↓u_mAnd, ↓u_mOr, ↓u_mNot, ↓u_bAnd, ↓u_bOr, ↓u_bNot, ↓u_mIf, ↓u_mFn, ↓u_mTup, ↓u_mLst, ↓u_mNew, ↓u_mCons, ↓u_mNil, ↓u_mCall, ↓u_mNext, ↓u_mAsg, ↓u_mFor, ↓u_mComp, ↓u_mCompN, ↓u_iSeqM, ↓u_mEnum, ↓u_mZip, ↓u_mPar2, ↓u_mPar3, ↓u_mPut, ↓u_mAug, ↓u_mAugS, ↓u_mBM, ↓u_mBM0, ↓u_mCallK, ↓u_mListRg, ↓u_mListRgN, ↓u_mTupRg, ↓u_mRg1, ↓u_mRg2, ↓u_iRngM1, ↓u_iRngM2, ↓u_pAt, ↓u_pNo, ↓u_mIsi, ↓u_mNever, ↓u_gtTp, ↓u_gtCons, ↓u_gtNil, ↓u_gtNm, ↓u_gtSub, ↓u_mBreak, ↓u_mCont, ↓u_mDisp, ↓u_bYes, ↓u_oI, ↓u_oB, ↓u_oIs, ↓u_oEqT, ↓u_seqT, ↓u_seqL, ↓u_seqS, ↓mSl_eq, slW_tup, slW_lst, List.map_cons, List.map_nil, List.length_cons, List.length_nil, List.cons_append, List.nil_append, List.getElem?_cons_zero, List.getElem?_cons_succ, List.set_cons_zero, List.set_cons_succ, List.replicate, Nat.reduceAdd, Nat.reduceSub, Nat.zero_add, if_true, Bool.false_eq_true, if_false, Bool.true_eq_false, reduceIte, t_law_shown, px2, px4, nx0]
  cases hm : p.me with
  | none => simp only [shown, hm] at h; exact ⟨hb, h⟩
  | some x => simp only [shown, hm] at h; exact h
theorem lsum_loop {N : Net} {s : S} {c : Cn} {x1 x4 : Option W} {sg : Int} (hs : sg = 1 ∨ sg = -1) (V : Valid N) : ∀ (is : List Nat) (t : Int) (x5 : Option W), (∀ i ∈ is, i < N.ps.length) →
    (∀ x5, c.nx [some (netW N), x1, some (.int (t + sg * (is.map (cvI N)).sum)), some (.int sg), x4, x5] s) →
    forL (.nm 5) (t_law_total_b1 sp_law_ins sp_law_outs sp_is_open_pipe sp_law_shown) [] (nW is) [some (netW N), x1, some (.int t), some (.int sg), x4, x5] s c
  | [], t, x5, _, h => ⟨fun _ h => by simp at h, by simpa using h x5⟩
  | i :: is, t, x5, hi, h => by
    refine ⟨fun _ h => by simp at h, ?_⟩
    have hlt := hi i (by simp)
    have ei : N.ps[i]? = some N.ps[i] := List.getElem?_eq_getElem hlt
    have ok := V.ok N.ps[i] (List.getElem_mem hlt)
    have b2 := V.b2
    have b6 := V.b6
    obtain ⟨g1, g2⟩ := shown_ok ok b2
    simp only [asg, List.set_cons_succ, List.set_cons_zero]
    generalize hcc : Cn.mk _ _ _ _ _ = c'
    simp only [↓u_fnM, ↓u_mSeq, ↓u_mIfS, ↓u_mRet, ↓u_mRetN, ↓u_mSet, ↓u_mExpr, ↓u_mVar, ↓u_mK, ↓u_mBin, ↓u_mUn, ↓u_mChain, ↓u_mT, ↓u_mAnd, ↓u_mOr, ↓u_mNot, ↓u_bAnd, ↓u_bOr, ↓u_bNot, ↓u_mIf, ↓u_mFn, ↓u_mTup, ↓u_mLst, ↓u_mNew, ↓u_mCons, ↓u_mNil, ↓u_mCall, ↓u_mNext, ↓u_mAsg, ↓u_mFor, ↓u_mComp, ↓u_mCompN, ↓u_iSeqM, ↓u_mEnum, ↓u_mZip, ↓u_mPar2, ↓u_mPar3, ↓u_mPut, ↓u_mAug, ↓u_mAugS, ↓u_mBM, ↓u_mBM0, ↓u_mCallK, ↓u_mListRg, ↓u_mListRgN, ↓u_mTupRg, ↓u_mRg1, ↓u_mRg2, ↓u_iRngM1, ↓u_iRngM2, ↓u_pAt, ↓u_pNo, ↓u_mIsi, ↓u_mNever, ↓u_gtTp, ↓u_gtCons, ↓u_gtNil, ↓u_gtNm, ↓u_gtSub, ↓u_mBreak, ↓u_mCont, ↓u_mDisp, ↓u_bYes, ↓u_oI, ↓u_oB, ↓u_oIs, ↓u_oEqT, ↓u_seqT, ↓u_seqL, ↓u_seqS, ↓mSl_eq, slW_tup, slW_lst, List.map_cons, List.map_nil, List.length_cons, List.length_nil, List.cons_append, List.nil_append, List.getElem?_cons_zero, List.getElem?_cons_succ, List.set_cons_zero, List.set_cons_succ, List.replicate, Nat.reduceAdd, Nat.reduceSub, Nat.zero_add, if_true, Bool.false_eq_true, if_false, Bool.true_eq_false, reduceIte, t_law_total_b1, nx2]
    refine ix_pipe ei ⟨trivial, _, rfl, ?_⟩
    have cv : cvI N i = cval N.b N.ps[i] := by unfold cvI; rw [ei]
    cases hop : N.ps[i].op with
    | true =>
      simp only [Bool.not_true, Bool.false_eq_true, if_false]
      subst hcc
      refine lsum_loop hs V is t _ (fun j hj => hi j (by simp [hj])) fun x5 => ?_
      have := h x5
      rw [List.map_cons, List.sum_cons, cv] at this
      simpa [cval, hop] using this
    | false =>
      simp only [Bool.not_false, if_true]
      refine ix_pipe ei ⟨trivial, N, _, rfl, by omega, ?_⟩
      refine ⟨?_, ?_⟩
      · have hb : (shown N.b N.ps[i]).natAbs < 2 ^ 40 := by omega
        rcases hs with rfl | rfl
        · exact wide_mul (a := 2) (b := 40) (by decide) hb (by decide) (by decide) (by decide)
        · exact wide_mul (a := 2) (b := 40) (by decide) hb (by decide) (by decide) (by decide)
      · subst hcc
        refine lsum_loop hs V is _ _ (fun j hj => hi j (by simp [hj])) fun x5 => ?_
        have := h x5
        rw [List.map_cons, List.sum_cons, cv] at this
        simp only [cval, hop, Bool.false_eq_true, if_false] at this
        rw [Int.mul_add, ← Int.add_assoc] at this
        exact this
def sp_law_total : FT := fun ws s q _ => ∃ N w A, ws = [netW N, w] ∧ Valid N ∧ NatSeq w s A ∧ q (.int (tot N A)) s
theorem ok_law_total : ∀ ws s q e, sp_law_total ws s q e → fnM 6 (t_law_total sp_law_ins sp_law_outs sp_is_open_pipe sp_law_shown) ws s q e := by
  rintro ws s q e ⟨N, w, A, rfl, V, hA, h⟩
  have b2 := V.b2
  simp only [↓u_fnM, ↓u_mSeq, ↓u_mIfS, ↓u_mRet, ↓u_mRetN, ↓u_mSet, ↓u_mExpr, ↓u_mVar, ↓u_mK, ↓u_mBin, ↓u_mUn, ↓u_mChain, ↓u_mT, ↓u_mAnd, ↓u_mOr, ↓u_mNot, ↓u_bAnd, ↓u_bOr, ↓u_bNot, ↓u_mIf, ↓u_mFn, ↓u_mTup, ↓u_mLst, ↓u_mNew, ↓u_mCons, ↓u_mNil, ↓u_mCall, ↓u_mNext, ↓u_mAsg, ↓u_mFor, ↓u_mComp, ↓u_mCompN, ↓u_iSeqM, ↓u_mEnum, ↓u_mZip, ↓u_mPar2, ↓u_mPar3, ↓u_mPut, ↓u_mAug, ↓u_mAugS, ↓u_mBM, ↓u_mBM0, ↓u_mCallK, ↓u_mListRg, ↓u_mListRgN, ↓u_mTupRg, ↓u_mRg1, ↓u_mRg2, ↓u_iRngM1, ↓u_iRngM2, ↓u_pAt, ↓u_pNo, ↓u_mIsi, ↓u_mNever, ↓u_gtTp, ↓u_gtCons, ↓u_gtNil, ↓u_gtNm, ↓u_gtSub, ↓u_mBreak, ↓u_mCont, ↓u_mDisp, ↓u_bYes, ↓u_oI, ↓u_oB, ↓u_oIs, ↓u_oEqT, ↓u_seqT, ↓u_seqL, ↓u_seqS, ↓mSl_eq, slW_tup, slW_lst, List.map_cons, List.map_nil, List.length_cons, List.length_nil, List.cons_append, List.nil_append, List.getElem?_cons_zero, List.getElem?_cons_succ, List.set_cons_zero, List.set_cons_succ, List.replicate, Nat.reduceAdd, Nat.reduceSub, Nat.zero_add, if_true, Bool.false_eq_true, if_false, Bool.true_eq_false, reduceIte, t_law_total, nx0, nx2]
  refine ⟨trivial, N, w, A, rfl, V.len, hA, ?_⟩
  refine ⟨by show 2 ≤ sizeLine; decide, trivial, trivial, N, w, A, rfl, V.len, hA, ?_⟩
  refine ⟨by show 2 ≤ sizeLine; decide, by show 2 ≤ sizeLine; decide, fun _ h => by simp at h, ?_⟩
  simp only [asg, asgs, itemsOf, List.length_cons, List.length_nil, if_true, List.set_cons_succ, List.set_cons_zero]
  simp only [t_law_total_b2, mFor, iSeqM, mVar, seqOf, List.getElem?_cons_zero, List.getElem?_cons_succ]
  refine lsum_loop (.inl rfl) V _ 0 none (fun i hi => idxs_lt hi) fun x7 => ⟨fun _ h => by simp at h, ?_⟩
  simp only [asg, asgs, itemsOf, List.length_cons, List.length_nil, if_true, List.set_cons_succ, List.set_cons_zero]
  refine lsum_loop (.inr rfl) V _ _ x7 (fun i hi => idxs_lt hi) fun x7 => ⟨fun _ h => by simp at h, ?_⟩
  refine ⟨by omega, ?_⟩
  have e1 : (0 + 1 * ((idxs N.ps (entC A)).map (cvI N)).sum + -1 * ((idxs N.ps (leaC A)).map (cvI N)).sum) = totI N A := by unfold totI; omega
  rw [e1]; exact h
end Fw

set_option maxRecDepth 100000
set_option maxHeartbeats 4000000
namespace Fw
open PySem PySem.Spec PyProof.Rows L2

/-! ## the law's clusters -/
def sp_law_joined : FT := fun ws s q _ => ∃ N x o, ws = [netW N, .int (x : Nat), optN o] ∧ Valid N ∧ x < N.n ∧ q (.lst (nW (sortN (clo N o x)))) s
theorem b1_joined : t_law_joined_b1 sp_is_open_pipe = roundB 2 sp_is_open_pipe := rfl
theorem joined_loop {N : Net} {s : S} {c : Cn} {x1 : Option W} {o : Option Nat} (V : Valid N) : ∀ (ks f : List Nat) (x4 x5 x6 : Option W), FOk N.n f →
    (∀ x4 x5 x6, c.nx [some (netW N), x1, some (optN o), some (.ref s.length), x4, x5, x6] (s ++ [.lst (nW (rndN o N.ps ks.length f))])) →
    forL (.nm 4) (t_law_joined_b2 sp_is_open_pipe) [] (nW ks) [some (netW N), x1, some (optN o), some (.ref s.length), x4, x5, x6] (s ++ [.lst (nW f)]) c
  | [], f, x4, x5, x6, _, h => ⟨fun _ h => by simp at h, h x4 x5 x6⟩
  | k :: ks, f, x4, x5, x6, hf, h => by
    refine ⟨fun _ h => by simp at h, ?_⟩
    have n24 := V.n24
    simp only [asg, List.set_cons_succ, List.set_cons_zero]
    generalize hcc : Cn.mk _ _ _ _ _ = c'
    simp only [↓u_fnM, ↓u_mSeq, ↓u_mIfS, ↓u_mRet, ↓u_mRetN, ↓u_mSet, ↓u_mExpr, ↓u_mVar, ↓u_mK, ↓u_mBin, ↓u_mUn, ↓u_mChain, ↓u_mT, ↓u_mAnd, ↓u_mOr, ↓u_mNot, ↓u_bAnd, ↓u_bOr, ↓u_bNot, ↓u_mIf, ↓u_mFn, ↓u_mTup, ↓u_mLst, ↓u_mNew, ↓u_mCons, ↓u_mNil, ↓u_mCall, ↓u_mNext, ↓u_mAsg, ↓u_mFor, ↓u_mComp, ↓u_mCompN, ↓u_iSeqM, ↓u_mEnum, ↓u_mZip, ↓u_mPar2, ↓u_mPar3, ↓u_mPut, ↓u_mAug, ↓u_mAugS, ↓u_mBM, ↓u_mBM0, ↓u_mCallK, ↓u_mListRg, ↓u_mListRgN, ↓u_mTupRg, ↓u_mRg1, ↓u_mRg2, ↓u_iRngM1, ↓u_iRngM2, ↓u_pAt, ↓u_pNo, ↓u_mIsi, ↓u_mNever, ↓u_gtTp, ↓u_gtCons, ↓u_gtNil, ↓u_gtNm, ↓u_gtSub, ↓u_mBreak, ↓u_mCont, ↓u_mDisp, ↓u_bYes, ↓u_oI, ↓u_oB, ↓u_oIs, ↓u_oEqT, ↓u_seqT, ↓u_seqL, ↓u_seqS, ↓mSl_eq, slW_tup, slW_lst, List.map_cons, List.map_nil, List.length_cons, List.length_nil, List.cons_append, List.nil_append, List.getElem?_cons_zero, List.getElem?_cons_succ, List.set_cons_zero, List.set_cons_succ, List.replicate, Nat.reduceAdd, Nat.reduceSub, Nat.zero_add, if_true, Bool.false_eq_true, if_false, Bool.true_eq_false, reduceIte, t_law_joined_b2, nx2, seqVals, itemsOf, enum_map, b1_joined]
    refine round_loop (v := 2) (o := o) (n := N.n) (by omega) (fun _ _ _ => rfl) (enP N.ps) f x5 x6 hf (fun a ha => V.ends a.1 (List.fst_mem_of_mem_zipIdx ha)) fun y5 y6 => ?_
    subst hcc
    exact joined_loop V ks (rndF o N.ps f) _ y5 y6 (rndF_ok hf V.ends) h
theorem ok_law_joined : ∀ ws s q e, sp_law_joined ws s q e → gc (fnM 7 (t_law_joined sp_is_open_pipe)) ws s q e := by
  rintro ws s q e ⟨N, x, o, rfl, V, hx, h⟩
  have n24 := V.n24
  show fnM 7 (t_law_joined sp_is_open_pipe) _ s _ _
  simp only [↓u_fnM, ↓u_mSeq, ↓u_mIfS, ↓u_mRet, ↓u_mRetN, ↓u_mSet, ↓u_mExpr, ↓u_mVar, ↓u_mK, ↓u_mBin, ↓u_mUn, ↓u_mChain, ↓u_mT, ↓u_mAnd, ↓u_mOr, ↓u_mNot, ↓u_bAnd, ↓u_bOr, ↓u_bNot, ↓u_mIf, ↓u_mFn, ↓u_mTup, ↓u_mLst, ↓u_mNew, ↓u_mCons, ↓u_mNil, ↓u_mCall, ↓u_mNext, ↓u_mAsg, ↓u_mFor, ↓u_mComp, ↓u_mCompN, ↓u_iSeqM, ↓u_mEnum, ↓u_mZip, ↓u_mPar2, ↓u_mPar3, ↓u_mPut, ↓u_mAug, ↓u_mAugS, ↓u_mBM, ↓u_mBM0, ↓u_mCallK, ↓u_mListRg, ↓u_mListRgN, ↓u_mTupRg, ↓u_mRg1, ↓u_mRg2, ↓u_iRngM1, ↓u_iRngM2, ↓u_pAt, ↓u_pNo, ↓u_mIsi, ↓u_mNever, ↓u_gtTp, ↓u_gtCons, ↓u_gtNil, ↓u_gtNm, ↓u_gtSub, ↓u_mBreak, ↓u_mCont, ↓u_mDisp, ↓u_bYes, ↓u_oI, ↓u_oB, ↓u_oIs, ↓u_oEqT, ↓u_seqT, ↓u_seqL, ↓u_seqS, ↓mSl_eq, slW_tup, slW_lst, List.map_cons, List.map_nil, List.length_cons, List.length_nil, List.cons_append, List.nil_append, List.getElem?_cons_zero, List.getElem?_cons_succ, List.set_cons_zero, List.set_cons_succ, List.replicate, Nat.reduceAdd, Nat.reduceSub, Nat.zero_add, if_true, Bool.false_eq_true, if_false, Bool.true_eq_false, reduceIte, t_law_joined, nx1]
  refine ⟨by show 1 ≤ sizeLine; decide, ⟨by omega, by omega⟩, ?_⟩
  rw [show ((N.n : Int)).toNat = N.n by omega, rangeW_map]
  refine joined_loop (f := [x]) V (List.range N.n) none none none (fok_one hx) fun x4 x5 x6 => ?_
  rw [List.length_range]
  simp only [↓u_fnM, ↓u_mSeq, ↓u_mIfS, ↓u_mRet, ↓u_mRetN, ↓u_mSet, ↓u_mExpr, ↓u_mVar, ↓u_mK, ↓u_mBin, ↓u_mUn, ↓u_mChain, ↓u_mT, ↓u_mAnd, ↓u_mOr, ↓u_mNot, ↓u_bAnd, ↓u_bOr, ↓u_bNot, ↓u_mIf, ↓u_mFn, ↓u_mTup, ↓u_mLst, ↓u_mNew, ↓u_mCons, ↓u_mNil, ↓u_mCall, ↓u_mNext, ↓u_mAsg, ↓u_mFor, ↓u_mComp, ↓u_mCompN, ↓u_iSeqM, ↓u_mEnum, ↓u_mZip, ↓u_mPar2, ↓u_mPar3, ↓u_mPut, ↓u_mAug, ↓u_mAugS, ↓u_mBM, ↓u_mBM0, ↓u_mCallK, ↓u_mListRg, ↓u_mListRgN, ↓u_mTupRg, ↓u_mRg1, ↓u_mRg2, ↓u_iRngM1, ↓u_iRngM2, ↓u_pAt, ↓u_pNo, ↓u_mIsi, ↓u_mNever, ↓u_gtTp, ↓u_gtCons, ↓u_gtNil, ↓u_gtNm, ↓u_gtSub, ↓u_mBreak, ↓u_mCont, ↓u_mDisp, ↓u_bYes, ↓u_oI, ↓u_oB, ↓u_oIs, ↓u_oEqT, ↓u_seqT, ↓u_seqL, ↓u_seqS, ↓mSl_eq, slW_tup, slW_lst, List.map_cons, List.map_nil, List.length_cons, List.length_nil, List.cons_append, List.nil_append, List.getElem?_cons_zero, List.getElem?_cons_succ, List.set_cons_zero, List.set_cons_succ, List.replicate, Nat.reduceAdd, Nat.reduceSub, Nat.zero_add, if_true, Bool.false_eq_true, if_false, Bool.true_eq_false, reduceIte, oSorted, liOf, lstOf, get_last, Option.bind_some, intsOf_nats, sort_cast, nW_map]
  exact gcQ.same (.lst (frz_nats _)) h
def clus (N : Net) (x : Nat) : List Nat := sortN (clo N none x)
def clusL (N : Net) : List (List Nat) := ((List.range N.n).filter fun x => decide ((clus N x)[0]? = some x)).map (clus N)
def sp_law_clusters : FT := fun ws s q _ => ∃ N, ws = [netW N] ∧ Valid N ∧ q (.lst ((clusL N).map fun g => .tup (nW g))) s
theorem foldF_mem {o : Option Nat} (as : List (Pipe × Nat)) (f : List Nat) {x : Nat} (h : x ∈ f) : x ∈ as.foldl (stepF o) f := by
  obtain ⟨t, ht⟩ := foldF_app (o := o) as f
  rw [ht]; exact List.mem_append_left _ h
theorem rndN_mem {o : Option Nat} {ps : List Pipe} : ∀ (k : Nat) {f : List Nat} {x : Nat}, x ∈ f → x ∈ rndN o ps k f
  | 0, _, _, h => h
  | k + 1, _, _, h => rndN_mem k (foldF_mem _ _ h)
theorem clo_self {N : Net} {o : Option Nat} {x : Nat} : x ∈ clo N o x := rndN_mem _ (by simp)
theorem clus_loop {N : Net} {s : S} {c : Cn} (V : Valid N) : ∀ (xs : List Nat) (acc : List (List Nat)) (x2 x3 : Option W), (∀ x ∈ xs, x < N.n) → acc.length + xs.length ≤ 1000 →
    (∀ x2 x3, c.nx [some (netW N), some (.ref s.length), x2, x3] (s ++ [.lst ((acc ++ (xs.filter fun x => decide ((clus N x)[0]? = some x)).map (clus N)).map fun g => .tup (nW g))])) →
    forL (.nm 2) (t_law_clusters_b1 sp_law_joined) [] (nW xs) [some (netW N), some (.ref s.length), x2, x3] (s ++ [.lst (acc.map fun g => .tup (nW g))]) c
  | [], acc, x2, x3, _, _, h => ⟨fun _ h => by simp at h, by simpa using h x2 x3⟩
  | x :: xs, acc, x2, x3, hx, hl, h => by
    refine ⟨fun _ h => by simp at h, ?_⟩
    have hxn := hx x (by simp)
    have hsz : (acc.map fun g => W.tup (nW g)).length < sizeLine := by rw [List.length_map, sizeLine_eq]; simp at hl; omega
    simp only [asg, List.set_cons_succ, List.set_cons_zero]
    generalize hcc : Cn.mk _ _ _ _ _ = c'
    simp only [↓u_fnM, ↓u_mSeq, ↓u_mIfS, ↓u_mRet, ↓u_mRetN, ↓u_mSet, ↓u_mExpr, ↓u_mVar, ↓u_mK, ↓u_mBin, ↓u_mUn, ↓u_mChain, ↓u_mT, ↓u_mAnd, ↓u_mOr, ↓u_mNot, ↓u_bAnd, ↓u_bOr, ↓u_bNot, ↓u_mIf, ↓u_mFn, ↓u_mTup, ↓u_mLst, ↓u_mNew, ↓u_mCons, ↓u_mNil, ↓u_mCall, ↓u_mNext, ↓u_mAsg, ↓u_mFor, ↓u_mComp, ↓u_mCompN, ↓u_iSeqM, ↓u_mEnum, ↓u_mZip, ↓u_mPar2, ↓u_mPar3, ↓u_mPut, ↓u_mAug, ↓u_mAugS, ↓u_mBM, ↓u_mBM0, ↓u_mCallK, ↓u_mListRg, ↓u_mListRgN, ↓u_mTupRg, ↓u_mRg1, ↓u_mRg2, ↓u_iRngM1, ↓u_iRngM2, ↓u_pAt, ↓u_pNo, ↓u_mIsi, ↓u_mNever, ↓u_gtTp, ↓u_gtCons, ↓u_gtNil, ↓u_gtNm, ↓u_gtSub, ↓u_mBreak, ↓u_mCont, ↓u_mDisp, ↓u_bYes, ↓u_oI, ↓u_oB, ↓u_oIs, ↓u_oEqT, ↓u_seqT, ↓u_seqL, ↓u_seqS, ↓mSl_eq, slW_tup, slW_lst, List.map_cons, List.map_nil, List.length_cons, List.length_nil, List.cons_append, List.nil_append, List.getElem?_cons_zero, List.getElem?_cons_succ, List.set_cons_zero, List.set_cons_succ, List.replicate, Nat.reduceAdd, Nat.reduceSub, Nat.zero_add, if_true, Bool.false_eq_true, if_false, Bool.true_eq_false, reduceIte, t_law_clusters_b1]
    refine ⟨trivial, N, x, none, rfl, V, hxn, ?_⟩
    have hne : (clus N x) ≠ [] := fun z => by
      have : x ∈ clus N x := mem_sortN.mpr clo_self
      rw [z] at this; simp at this
    obtain ⟨y, ys, hy⟩ := List.exists_cons_of_ne_nil hne
    have hy0 : (clus N x)[0]? = some y := by rw [hy]; rfl
    simp only [oTuple, seqVals, itemsOf]
    refine ix_nats (ns := clus N x) (i := 0) rfl hy0 ?_
    simp only [eq_int]
    by_cases hyx : y = x
    · have e1 : ((y : Nat) : Int) = (x : Nat) := by rw [hyx]
      simp only [e1, decide_true, Bool.false_bne, if_true]
      refine ⟨by simp [isLst, lstOf], append_last hsz ?_⟩
      subst hcc
      have := clus_loop V xs (acc ++ [clus N x]) (some (.int (x : Int))) (some (.tup (nW (clus N x)))) (fun z hz => hx z (by simp [hz])) (by simp at hl ⊢; omega) (by
        intro x2 x3
        have := h x2 x3
        rw [List.filter_cons_of_pos (by rw [hy0, hyx]; simp)] at this
        simpa using this)
      have e0 : ((acc ++ [clus N x]).map fun g => W.tup (nW g)) = (acc.map fun g => W.tup (nW g)) ++ [W.tup (nW (sortN (clo N none x)))] := by rw [List.map_append]; rfl
      rw [e0] at this
      exact this
    · have e1 : ¬ ((y : Nat) : Int) = (x : Nat) := by omega
      simp only [e1, decide_false, Bool.false_bne, Bool.false_eq_true, if_false]
      subst hcc
      exact clus_loop V xs acc _ _ (fun z hz => hx z (by simp [hz])) (by simp at hl ⊢; omega) (by
        intro x2 x3
        have := h x2 x3
        rw [List.filter_cons_of_neg (by rw [hy0]; simp [hyx])] at this
        exact this)
theorem frz_groups {k : Nat} {s : S} : ∀ gs : List (List Nat), Frzs k s (gs.map fun g => .tup (nW g)) (gs.map fun g => .tup (nW g))
  | [] => .nil
  | g :: gs => .cons (.tup (frz_nats g)) (frz_groups gs)
theorem ok_law_clusters : ∀ ws s q e, sp_law_clusters ws s q e → gc (fnM 4 (t_law_clusters sp_law_joined)) ws s q e := by
  rintro ws s q e ⟨N, rfl, V, h⟩
  have n24 := V.n24
  show fnM 4 (t_law_clusters sp_law_joined) _ s _ _
  simp only [↓u_fnM, ↓u_mSeq, ↓u_mIfS, ↓u_mRet, ↓u_mRetN, ↓u_mSet, ↓u_mExpr, ↓u_mVar, ↓u_mK, ↓u_mBin, ↓u_mUn, ↓u_mChain, ↓u_mT, ↓u_mAnd, ↓u_mOr, ↓u_mNot, ↓u_bAnd, ↓u_bOr, ↓u_bNot, ↓u_mIf, ↓u_mFn, ↓u_mTup, ↓u_mLst, ↓u_mNew, ↓u_mCons, ↓u_mNil, ↓u_mCall, ↓u_mNext, ↓u_mAsg, ↓u_mFor, ↓u_mComp, ↓u_mCompN, ↓u_iSeqM, ↓u_mEnum, ↓u_mZip, ↓u_mPar2, ↓u_mPar3, ↓u_mPut, ↓u_mAug, ↓u_mAugS, ↓u_mBM, ↓u_mBM0, ↓u_mCallK, ↓u_mListRg, ↓u_mListRgN, ↓u_mTupRg, ↓u_mRg1, ↓u_mRg2, ↓u_iRngM1, ↓u_iRngM2, ↓u_pAt, ↓u_pNo, ↓u_mIsi, ↓u_mNever, ↓u_gtTp, ↓u_gtCons, ↓u_gtNil, ↓u_gtNm, ↓u_gtSub, ↓u_mBreak, ↓u_mCont, ↓u_mDisp, ↓u_bYes, ↓u_oI, ↓u_oB, ↓u_oIs, ↓u_oEqT, ↓u_seqT, ↓u_seqL, ↓u_seqS, ↓mSl_eq, slW_tup, slW_lst, List.map_cons, List.map_nil, List.length_cons, List.length_nil, List.cons_append, List.nil_append, List.getElem?_cons_zero, List.getElem?_cons_succ, List.set_cons_zero, List.set_cons_succ, List.replicate, Nat.reduceAdd, Nat.reduceSub, Nat.zero_add, if_true, Bool.false_eq_true, if_false, Bool.true_eq_false, reduceIte, t_law_clusters, nx1]
  refine ⟨by show 0 ≤ sizeLine; omega, ⟨by omega, by omega⟩, ?_⟩
  rw [show ((N.n : Int)).toNat = N.n by omega, rangeW_map]
  refine clus_loop V (List.range N.n) [] none none (fun x hx => List.mem_range.mp hx) (by simp; omega) fun x2 x3 => ?_
  simp only [↓u_fnM, ↓u_mSeq, ↓u_mIfS, ↓u_mRet, ↓u_mRetN, ↓u_mSet, ↓u_mExpr, ↓u_mVar, ↓u_mK, ↓u_mBin, ↓u_mUn, ↓u_mChain, ↓u_mT, ↓u_mAnd, ↓u_mOr, ↓u_mNot, ↓u_bAnd, ↓u_bOr, ↓u_bNot, ↓u_mIf, ↓u_mFn, ↓u_mTup, ↓u_mLst, ↓u_mNew, ↓u_mCons, ↓u_mNil, ↓u_mCall, ↓u_mNext, ↓u_mAsg, ↓u_mFor, ↓u_mComp, ↓u_mCompN, ↓u_iSeqM, ↓u_mEnum, ↓u_mZip, ↓u_mPar2, ↓u_mPar3, ↓u_mPut, ↓u_mAug, ↓u_mAugS, ↓u_mBM, ↓u_mBM0, ↓u_mCallK, ↓u_mListRg, ↓u_mListRgN, ↓u_mTupRg, ↓u_mRg1, ↓u_mRg2, ↓u_iRngM1, ↓u_iRngM2, ↓u_pAt, ↓u_pNo, ↓u_mIsi, ↓u_mNever, ↓u_gtTp, ↓u_gtCons, ↓u_gtNil, ↓u_gtNm, ↓u_gtSub, ↓u_mBreak, ↓u_mCont, ↓u_mDisp, ↓u_bYes, ↓u_oI, ↓u_oB, ↓u_oIs, ↓u_oEqT, ↓u_seqT, ↓u_seqL, ↓u_seqS, ↓mSl_eq, slW_tup, slW_lst, List.map_cons, List.map_nil, List.length_cons, List.length_nil, List.cons_append, List.nil_append, List.getElem?_cons_zero, List.getElem?_cons_succ, List.set_cons_zero, List.set_cons_succ, List.replicate, Nat.reduceAdd, Nat.reduceSub, Nat.zero_add, if_true, Bool.false_eq_true, if_false, Bool.true_eq_false, reduceIte]
  exact gcQ.same (.new (Nat.le_refl _) get_last (frz_groups _)) h
def wrongL (N : Net) : List (List Nat) := (clusL N).filter fun g => decide (tot N g ≠ 0)
def sp_law_wrong : FT := fun ws s q _ => ∃ N, ws = [netW N] ∧ Valid N ∧ q (.lst ((wrongL N).map fun g => .tup (nW g))) s
theorem clusL_len {N : Net} : (clusL N).length ≤ N.n := by
  unfold clusL
  rw [List.length_map]
  exact Nat.le_trans (List.length_filter_le _ _) (by simp)
theorem ok_law_wrong : ∀ ws s q e, sp_law_wrong ws s q e → fnM 2 (t_law_wrong sp_law_clusters sp_law_total) ws s q e := by
  rintro ws s q e ⟨N, rfl, V, h⟩
  have n24 := V.n24
  refine ⟨rfl, N, rfl, V, ?_⟩
  refine compL_map (fun g => .tup (nW g)) (fun g => if decide (tot N g ≠ 0) then some (.tup (nW g)) else none) (clusL N) [] (fun g _ => ?_) (by have := clusL_len (N := N); simp only [List.length_nil]; exact leW _ (by omega)) (fun _ h => by simp at h) ?_
  · refine ⟨_, rfl, fun k e hk => ?_, fun y hy k e hk => ?_⟩
    · simp only [↓u_fnM, ↓u_mSeq, ↓u_mIfS, ↓u_mRet, ↓u_mRetN, ↓u_mSet, ↓u_mExpr, ↓u_mVar, ↓u_mK, ↓u_mBin, ↓u_mUn, ↓u_mChain, ↓u_mT, ↓u_mAnd, ↓u_mOr, ↓u_mNot, ↓u_bAnd, ↓u_bOr, ↓u_bNot, ↓u_mIf, ↓u_mFn, ↓u_mTup, ↓u_mLst, ↓u_mNew, ↓u_mCons, ↓u_mNil, ↓u_mCall, ↓u_mNext, ↓u_mAsg, ↓u_mFor, ↓u_mComp, ↓u_mCompN, ↓u_iSeqM, ↓u_mEnum, ↓u_mZip, ↓u_mPar2, ↓u_mPar3, ↓u_mPut, ↓u_mAug, ↓u_mAugS, ↓u_mBM, ↓u_mBM0, ↓u_mCallK, ↓u_mListRg, ↓u_mListRgN, ↓u_mTupRg, ↓u_mRg1, ↓u_mRg2, ↓u_iRngM1, ↓u_iRngM2, ↓u_pAt, ↓u_pNo, ↓u_mIsi, ↓u_mNever, ↓u_gtTp, ↓u_gtCons, ↓u_gtNil, ↓u_gtNm, ↓u_gtSub, ↓u_mBreak, ↓u_mCont, ↓u_mDisp, ↓u_bYes, ↓u_oI, ↓u_oB, ↓u_oIs, ↓u_oEqT, ↓u_seqT, ↓u_seqL, ↓u_seqS, ↓mSl_eq, slW_tup, slW_lst, List.map_cons, List.map_nil, List.length_cons, List.length_nil, List.cons_append, List.nil_append, List.getElem?_cons_zero, List.getElem?_cons_succ, List.set_cons_zero, List.set_cons_succ, List.replicate, Nat.reduceAdd, Nat.reduceSub, Nat.zero_add, if_true, Bool.false_eq_true, if_false, Bool.true_eq_false, reduceIte, wipeL]
      refine ⟨trivial, N, _, g, rfl, V, .inl rfl, ?_⟩
      simp only [eq_int]
      by_cases hg : tot N g = 0 <;> simpa [hg] using hk
    · simp only [↓u_fnM, ↓u_mSeq, ↓u_mIfS, ↓u_mRet, ↓u_mRetN, ↓u_mSet, ↓u_mExpr, ↓u_mVar, ↓u_mK, ↓u_mBin, ↓u_mUn, ↓u_mChain, ↓u_mT, ↓u_mAnd, ↓u_mOr, ↓u_mNot, ↓u_bAnd, ↓u_bOr, ↓u_bNot, ↓u_mIf, ↓u_mFn, ↓u_mTup, ↓u_mLst, ↓u_mNew, ↓u_mCons, ↓u_mNil, ↓u_mCall, ↓u_mNext, ↓u_mAsg, ↓u_mFor, ↓u_mComp, ↓u_mCompN, ↓u_iSeqM, ↓u_mEnum, ↓u_mZip, ↓u_mPar2, ↓u_mPar3, ↓u_mPut, ↓u_mAug, ↓u_mAugS, ↓u_mBM, ↓u_mBM0, ↓u_mCallK, ↓u_mListRg, ↓u_mListRgN, ↓u_mTupRg, ↓u_mRg1, ↓u_mRg2, ↓u_iRngM1, ↓u_iRngM2, ↓u_pAt, ↓u_pNo, ↓u_mIsi, ↓u_mNever, ↓u_gtTp, ↓u_gtCons, ↓u_gtNil, ↓u_gtNm, ↓u_gtSub, ↓u_mBreak, ↓u_mCont, ↓u_mDisp, ↓u_bYes, ↓u_oI, ↓u_oB, ↓u_oIs, ↓u_oEqT, ↓u_seqT, ↓u_seqL, ↓u_seqS, ↓mSl_eq, slW_tup, slW_lst, List.map_cons, List.map_nil, List.length_cons, List.length_nil, List.cons_append, List.nil_append, List.getElem?_cons_zero, List.getElem?_cons_succ, List.set_cons_zero, List.set_cons_succ, List.replicate, Nat.reduceAdd, Nat.reduceSub, Nat.zero_add, if_true, Bool.false_eq_true, if_false, Bool.true_eq_false, reduceIte, wipeL]
      by_cases hg : tot N g = 0 <;> simp [hg] at hy
      subst hy; exact hk
  · rw [filterMap_if (fun g => decide (tot N g ≠ 0)) (fun g : List Nat => W.tup (nW g))]
    exact h

end Fw

set_option maxRecDepth 100000
set_option maxHeartbeats 400000
namespace Fw
open PySem PySem.Spec PyProof.Rows L2

/-! ## a pipe turned round -/
def Pipe.rev (p : Pipe) : Pipe := { p with s := p.t, t := p.s }
def turnN (N : Net) (i : Nat) (p : Pipe) : Net := { N with ps := N.ps.take i ++ p.rev :: N.ps.drop (i + 1) }
theorem cut_to {xs : List W} {i : Nat} (h : i ≤ xs.length) : cutW xs none (some (i : Int)) = xs.take i := by
  unfold cutW
  rw [HT.sIx_none, HT.sIx_nat]
  simp [Nat.min_eq_left h]
theorem cut_from {xs : List W} {i : Nat} (h : i ≤ xs.length) : cutW xs (some (i : Int)) none = xs.drop i := by
  unfold cutW
  rw [HT.sIx_none, HT.sIx_nat, Nat.min_eq_left h]
  rw [List.take_of_length_le (by simp)]
theorem sl_pipe {p : Pipe} {s : S} {q : QW} : slW (pW p) (some 2) none s q = q (.tup [.int p.lo, .int p.hi, mW p.me]) s := propext ⟨fun h => h, fun h => h⟩
theorem add_tup {xs ys : List W} {s : S} {q : QW} : oAdd (.tup xs) (.tup ys) s q = (xs.length + ys.length ≤ sizeLine ∧ q (.tup (xs ++ ys)) s) := propext ⟨fun h => h, fun h => h⟩
theorem add_int {i j : Int} {s : S} {q : QW} : oAdd (.int i) (.int j) s q = q (.int (i + j)) s := propext ⟨fun h => h, fun h => h⟩
def sp_law_turned : FT := fun ws s q _ => ∃ N i p, ws = [netW N, .int (i : Nat)] ∧ N.ps.length ≤ 60 ∧ N.ps[i]? = some p ∧ q (netW (turnN N i p)) s
theorem ok_law_turned : ∀ ws s q e, sp_law_turned ws s q e → fnM 3 t_law_turned ws s q e := by
  rintro ws s q e ⟨N, i, p, rfl, hl, hp, h⟩
  have hi := (List.getElem?_eq_some_iff.mp hp).1
  have c1 : cutW (N.ps.map pW) none (some (i : Int)) = (N.ps.take i).map pW := by rw [cut_to (by simp; omega), List.map_take]
  have c2 : cutW (N.ps.map pW) (some ((i : Int) + 1)) none = (N.ps.drop (i + 1)).map pW := by
    rw [show ((i : Int) + 1) = ((i + 1 : Nat) : Int) by omega, cut_from (by simp; omega), List.map_drop]
  simp only [↓u_fnM, ↓u_mSeq, ↓u_mIfS, ↓u_mRet, ↓u_mRetN, ↓u_mSet, ↓u_mExpr, ↓u_mVar, ↓u_mK, ↓u_mBin, ↓u_mUn, ↓u_mChain, ↓u_mT, ↓u_mAnd, ↓u_mOr, ↓u_mNot, ↓u_bAnd, ↓u_bOr, ↓u_bNot, ↓u_mIf, ↓u_mFn, ↓u_mTup, ↓u_mLst, ↓u_mNew, ↓u_mCons, ↓u_mNil, ↓u_mCall, ↓u_mNext, ↓u_mAsg, ↓u_mFor, ↓u_mComp, ↓u_mCompN, ↓u_iSeqM, ↓u_mEnum, ↓u_mZip, ↓u_mPar2, ↓u_mPar3, ↓u_mPut, ↓u_mAug, ↓u_mAugS, ↓u_mBM, ↓u_mBM0, ↓u_mCallK, ↓u_mListRg, ↓u_mListRgN, ↓u_mTupRg, ↓u_mRg1, ↓u_mRg2, ↓u_iRngM1, ↓u_iRngM2, ↓u_pAt, ↓u_pNo, ↓u_mIsi, ↓u_mNever, ↓u_gtTp, ↓u_gtCons, ↓u_gtNil, ↓u_gtNm, ↓u_gtSub, ↓u_mBreak, ↓u_mCont, ↓u_mDisp, ↓u_bYes, ↓u_oI, ↓u_oB, ↓u_oIs, ↓u_oEqT, ↓u_seqT, ↓u_seqL, ↓u_seqS, ↓mSl_eq, slW_tup, slW_lst, List.map_cons, List.map_nil, List.length_cons, List.length_nil, List.cons_append, List.nil_append, List.getElem?_cons_zero, List.getElem?_cons_succ, List.set_cons_zero, List.set_cons_succ, List.replicate, Nat.reduceAdd, Nat.reduceSub, Nat.zero_add, if_true, Bool.false_eq_true, if_false, Bool.true_eq_false, reduceIte, t_law_turned, nx0, nx1, nx2]
  refine ix_pipe hp ?_
  simp only [px0, px1, sl_pipe, add_tup, add_int, c1, c2]
  refine ⟨by show 2 ≤ sizeLine; decide, leW _ (by simp), by show 1 ≤ sizeLine; decide, ?_, ?_, ?_⟩
  · simp only [List.length_map, List.length_take, List.length_cons, List.length_nil]; exact leW _ (by omega)
  · simp only [List.length_append, List.length_map, List.length_take, List.length_drop, List.length_cons, List.length_nil]; exact leW _ (by omega)
  · refine ⟨by show 3 ≤ sizeLine; decide, ?_⟩
    have e1 : netW (turnN N i p) = .tup [.int N.b, .int N.n, .tup ((N.ps.take i).map pW ++ [pW p.rev] ++ (N.ps.drop (i + 1)).map pW)] := by
      simp [netW, turnN]
    rw [e1] at h
    exact h
end Fw

set_option maxRecDepth 100000
set_option maxHeartbeats 4000000
namespace Fw
open PySem PySem.Spec PyProof.Rows L2

/-! ## sizes -/
def Bd (i : Int) (a : Nat) : Prop := i.natAbs < 2 ^ a
theorem Bd.mono {i : Int} {a b : Nat} (h : Bd i a) (k : a ≤ b) : Bd i b := Nat.lt_of_lt_of_le h (Nat.pow_le_pow_right (by decide) k)
theorem Bd.mul {i j : Int} {a b : Nat} (h : Bd i a) (k : Bd j b) : Bd (i * j) (a + b) := by
  unfold Bd at *
  rw [Int.natAbs_mul, Nat.pow_add]
  have h1 : i.natAbs * j.natAbs ≤ i.natAbs * 2 ^ b := Nat.mul_le_mul_left _ (Nat.le_of_lt k)
  have h2 : i.natAbs * 2 ^ b < 2 ^ a * 2 ^ b := Nat.mul_lt_mul_of_pos_right h (Nat.pow_pos (by decide))
  omega
theorem Bd.add {i j : Int} {a b : Nat} (h : Bd i a) (k : Bd j b) : Bd (i + j) (max a b + 1) := by
  have h' := h.mono (Nat.le_max_left a b)
  have k' := k.mono (Nat.le_max_right a b)
  unfold Bd at *
  rw [Nat.pow_succ]
  have := Int.natAbs_add_le i j
  omega
theorem Bd.cmul {i j : Int} {a b : Nat} (h : Bd i a) (k : Bd j b) (h0 : 0 < a := by decide) (h1 : 0 < b := by decide) (h2 : a + b ≤ 1000000 := by decide) : CMulW i j := wide_mul h k h0 h1 h2
theorem cdiv {i j : Int} {b : Nat} (h : 0 < j) (k : Bd j b) (h0 : 0 < b := by decide) (h1 : b ≤ 9000 := by decide) : CDivW i j := wide_div h k h0 h1

/-! ## the law's numbers -/
def sp_law_mixed : FT := fun ws s q _ => ∃ c n, ws = [.int c, .int n] ∧ 0 ≤ c ∧ Bd c 80 ∧ 0 ≤ n ∧ Bd n 70 ∧ ∀ v, 0 ≤ v → v < 2147483647 → q (.int v) s
theorem ok_law_mixed : ∀ ws s q e, sp_law_mixed ws s q e → fnM 3 t_law_mixed ws s q e := by
  rintro ws s q e ⟨c, n, rfl, hc, bc, hn, bn, h⟩
  simp only [↓u_fnM, ↓u_mSeq, ↓u_mIfS, ↓u_mRet, ↓u_mRetN, ↓u_mSet, ↓u_mExpr, ↓u_mVar, ↓u_mK, ↓u_mBin, ↓u_mUn, ↓u_mChain, ↓u_mT, ↓u_mAnd, ↓u_mOr, ↓u_mNot, ↓u_bAnd, ↓u_bOr, ↓u_bNot, ↓u_mIf, ↓u_mFn, ↓u_mTup, ↓u_mLst, ↓u_mNew, ↓u_mCons, ↓u_mNil, ↓u_mCall, ↓u_mNext, ↓u_mAsg, ↓u_mFor, ↓u_mComp, ↓u_mCompN, ↓u_iSeqM, ↓u_mEnum, ↓u_mZip, ↓u_mPar2, ↓u_mPar3, ↓u_mPut, ↓u_mAug, ↓u_mAugS, ↓u_mBM, ↓u_mBM0, ↓u_mCallK, ↓u_mListRg, ↓u_mListRgN, ↓u_mTupRg, ↓u_mRg1, ↓u_mRg2, ↓u_iRngM1, ↓u_iRngM2, ↓u_pAt, ↓u_pNo, ↓u_mIsi, ↓u_mNever, ↓u_gtTp, ↓u_gtCons, ↓u_gtNil, ↓u_gtNm, ↓u_gtSub, ↓u_mBreak, ↓u_mCont, ↓u_mDisp, ↓u_bYes, ↓u_oI, ↓u_oB, ↓u_oIs, ↓u_oEqT, ↓u_seqT, ↓u_seqL, ↓u_seqS, ↓mSl_eq, slW_tup, slW_lst, List.map_cons, List.map_nil, List.length_cons, List.length_nil, List.cons_append, List.nil_append, List.getElem?_cons_zero, List.getElem?_cons_succ, List.set_cons_zero, List.set_cons_succ, List.replicate, Nat.reduceAdd, Nat.reduceSub, Nat.zero_add, if_true, Bool.false_eq_true, if_false, Bool.true_eq_false, reduceIte, t_law_mixed, add_int]
  have b2n : Bd (2 * n) 72 := Bd.mul (a := 2) (b := 70) (by unfold Bd; decide) bn
  have b12n : Bd (1 + 2 * n) 73 := Bd.add (a := 1) (b := 72) (by unfold Bd; decide) b2n
  have bcn : Bd (c * (1 + 2 * n)) 153 := bc.mul b12n
  have b48 : Bd 48271 16 := by unfold Bd; decide
  have b7919 : Bd 7919 13 := by unfold Bd; decide
  have b7n : Bd (7919 * n) 83 := b7919.mul bn
  have b7nn : Bd (7919 * n * n) 153 := b7n.mul bn
  have b10 : Bd 104729 17 := by unfold Bd; decide
  have b10n : Bd (104729 * n) 87 := b10.mul bn
  have bm : Bd (c * (1 + 2 * n) * 48271 % 2147483647) 31 := by unfold Bd; omega
  have bs1 : Bd (c * (1 + 2 * n) * 48271 % 2147483647 + 7919 * n * n) 154 := Bd.add (a := 31) (b := 153) bm b7nn
  have bs2 : Bd (c * (1 + 2 * n) * 48271 % 2147483647 + 7919 * n * n + 104729 * n) 155 := Bd.add (a := 154) (b := 87) bs1 b10n
  refine ⟨Bd.cmul (a := 2) (b := 70) (by unfold Bd; decide) bn, bc.cmul b12n, bcn.cmul b48, by omega, b7919.cmul bn, b7n.cmul bn, b10.cmul bn, bs2.cmul (b := 17) (by unfold Bd; decide), by omega, cdiv (b := 3) (by omega) (by unfold Bd; decide), ?_⟩
  refine h _ ?_ ?_ <;> omega
end Fw

set_option maxRecDepth 100000
set_option maxHeartbeats 4000000
namespace Fw
open PySem PySem.Spec PyProof.Rows L2

/-! ## the law's cells -/
def Good64 (cs : List Int) : Prop := cs.length = 64 ∧ ∀ c ∈ cs, 0 ≤ c ∧ c < 2147483647
theorem Good64.set {cs : List Int} (h : Good64 cs) {i : Nat} {v : Int} (h0 : 0 ≤ v) (h1 : v < 2147483647) : Good64 (cs.set i v) := by
  refine ⟨by rw [List.length_set]; exact h.1, fun c hc => ?_⟩
  rcases List.mem_or_eq_of_mem_set hc with hc | rfl
  · exact h.2 c hc
  · exact ⟨h0, h1⟩
theorem Good64.at {cs : List Int} (h : Good64 cs) {i : Nat} (hi : i < 64) : ∃ x, cs[i]? = some x ∧ 0 ≤ x ∧ x < 2147483647 := by
  have hl : i < cs.length := by rw [h.1]; exact hi
  exact ⟨cs[i], List.getElem?_eq_getElem hl, h.2 _ (List.getElem_mem hl)⟩
theorem ix_ints {w : W} {s : S} {cs : List Int} {i : Nat} {q : QW} {x : Int} (h : itemsOf w s = some (cs.map W.int)) (e : cs[i]? = some x) (k : q (.int x) s) : oIx w (.int (i : Int)) s q := by
  unfold oIx
  rw [h]
  have : atI (cs.map W.int) (i : Int) = some (.int x) := atI_nat (by simp [e])
  simp only [this]
  exact k
theorem put_last {s : S} {xs : List W} {i : Nat} {y : W} {q : S → Prop} (h : i < xs.length) (k : q (s ++ [.lst (xs.set i y)])) : oPut (.ref s.length) (.int (i : Int)) y (s ++ [.lst xs]) q := by
  unfold oPut cellL
  simp only [get_last]
  have e : ixN xs.length (i : Int) = some i := by
    unfold ixN
    rw [if_pos (by omega), if_pos (by omega)]; simp
  simp only [e, set_last]
  exact k
theorem items_last {s : S} {xs : List W} : itemsOf (.ref s.length) (s ++ [.lst xs]) = some xs := by
  unfold itemsOf
  simp only [get_last]
theorem fold_loop1 {s : S} {c : Cn} {x0 : Option W} : ∀ (as : List (Int × Nat)) (cs : List Int) (x2 x3 : Option W), Good64 cs →
    (∀ cs x2 x3, Good64 cs → c.nx [x0, some (.ref s.length), x2, x3] (s ++ [.lst (cs.map W.int)])) →
    forL (.tp [.nm 2, .nm 3]) t_law_folded_b1 [] (as.map fun a => .tup [.int (a.2 : Int), .int a.1]) [x0, some (.ref s.length), x2, x3] (s ++ [.lst (cs.map W.int)]) c
  | [], cs, x2, x3, g, h => ⟨fun _ h => by simp at h, h cs x2 x3 g⟩
  | a :: as, cs, x2, x3, g, h => by
    refine ⟨fun _ h => by simp at h, ?_⟩
    obtain ⟨x, hx, x0', x1'⟩ := g.at (i := a.2 % 64) (by omega)
    have em : ((a.2 : Int) % 64) = ((a.2 % 64 : Nat) : Int) := by omega
    simp only [asg, asgs, itemsOf, List.length_cons, List.length_nil, if_true, List.set_cons_succ, List.set_cons_zero]
    generalize hcc : Cn.mk _ _ _ _ _ = c'
    simp only [↓u_fnM, ↓u_mSeq, ↓u_mIfS, ↓u_mRet, ↓u_mRetN, ↓u_mSet, ↓u_mExpr, ↓u_mVar, ↓u_mK, ↓u_mBin, ↓u_mUn, ↓u_mChain, ↓u_mT, ↓u_mAnd, ↓u_mOr, ↓u_mNot, ↓u_bAnd, ↓u_bOr, ↓u_bNot, ↓u_mIf, ↓u_mFn, ↓u_mTup, ↓u_mLst, ↓u_mNew, ↓u_mCons, ↓u_mNil, ↓u_mCall, ↓u_mNext, ↓u_mAsg, ↓u_mFor, ↓u_mComp, ↓u_mCompN, ↓u_iSeqM, ↓u_mEnum, ↓u_mZip, ↓u_mPar2, ↓u_mPar3, ↓u_mPut, ↓u_mAug, ↓u_mAugS, ↓u_mBM, ↓u_mBM0, ↓u_mCallK, ↓u_mListRg, ↓u_mListRgN, ↓u_mTupRg, ↓u_mRg1, ↓u_mRg2, ↓u_iRngM1, ↓u_iRngM2, ↓u_pAt, ↓u_pNo, ↓u_mIsi, ↓u_mNever, ↓u_gtTp, ↓u_gtCons, ↓u_gtNil, ↓u_gtNm, ↓u_gtSub, ↓u_mBreak, ↓u_mCont, ↓u_mDisp, ↓u_bYes, ↓u_oI, ↓u_oB, ↓u_oIs, ↓u_oEqT, ↓u_seqT, ↓u_seqL, ↓u_seqS, ↓mSl_eq, slW_tup, slW_lst, List.map_cons, List.map_nil, List.length_cons, List.length_nil, List.cons_append, List.nil_append, List.getElem?_cons_zero, List.getElem?_cons_succ, List.set_cons_zero, List.set_cons_succ, List.replicate, Nat.reduceAdd, Nat.reduceSub, Nat.zero_add, if_true, Bool.false_eq_true, if_false, Bool.true_eq_false, reduceIte, t_law_folded_b1, em]
    refine ⟨by omega, ix_ints items_last hx ?_⟩
    refine ⟨Bd.cmul (a := 31) (b := 16) (by unfold Bd; omega) (by unfold Bd; decide), ?_⟩
    simp only [add_int, u_oI]
    refine ⟨by omega, by omega, ?_⟩
    refine put_last (by rw [List.length_map, g.1]; omega) ?_
    rw [← List.map_set]
    subst hcc
    exact fold_loop1 as _ _ _ (g.set (by omega) (by omega)) h
theorem fold_loop2 {s : S} {c : Cn} {x0 x3 : Option W} : ∀ (ks : List Nat) (cs : List Int) (x2 : Option W), Good64 cs → (∀ k ∈ ks, k < 63) →
    (∀ cs x2, Good64 cs → c.nx [x0, some (.ref s.length), x2, x3] (s ++ [.lst (cs.map W.int)])) →
    forL (.nm 2) t_law_folded_b2 [] (ks.map fun (k : Nat) => .int (1 + (k : Int))) [x0, some (.ref s.length), x2, x3] (s ++ [.lst (cs.map W.int)]) c
  | [], cs, x2, g, _, h => ⟨fun _ h => by simp at h, h cs x2 g⟩
  | k :: ks, cs, x2, g, hk, h => by
    refine ⟨fun _ h => by simp at h, ?_⟩
    have hk0 := hk k (by simp)
    obtain ⟨x, hx, x0', x1'⟩ := g.at (i := k + 1) (by omega)
    obtain ⟨y, hy, y0', y1'⟩ := g.at (i := k) (by omega)
    have e1 : (1 + (k : Int)) = ((k + 1 : Nat) : Int) := by omega
    have e2 : (((k + 1 : Nat) : Int) - 1) = (k : Int) := by omega
    simp only [asg, List.set_cons_succ, List.set_cons_zero, e1]
    generalize hcc : Cn.mk _ _ _ _ _ = c'
    simp only [↓u_fnM, ↓u_mSeq, ↓u_mIfS, ↓u_mRet, ↓u_mRetN, ↓u_mSet, ↓u_mExpr, ↓u_mVar, ↓u_mK, ↓u_mBin, ↓u_mUn, ↓u_mChain, ↓u_mT, ↓u_mAnd, ↓u_mOr, ↓u_mNot, ↓u_bAnd, ↓u_bOr, ↓u_bNot, ↓u_mIf, ↓u_mFn, ↓u_mTup, ↓u_mLst, ↓u_mNew, ↓u_mCons, ↓u_mNil, ↓u_mCall, ↓u_mNext, ↓u_mAsg, ↓u_mFor, ↓u_mComp, ↓u_mCompN, ↓u_iSeqM, ↓u_mEnum, ↓u_mZip, ↓u_mPar2, ↓u_mPar3, ↓u_mPut, ↓u_mAug, ↓u_mAugS, ↓u_mBM, ↓u_mBM0, ↓u_mCallK, ↓u_mListRg, ↓u_mListRgN, ↓u_mTupRg, ↓u_mRg1, ↓u_mRg2, ↓u_iRngM1, ↓u_iRngM2, ↓u_pAt, ↓u_pNo, ↓u_mIsi, ↓u_mNever, ↓u_gtTp, ↓u_gtCons, ↓u_gtNil, ↓u_gtNm, ↓u_gtSub, ↓u_mBreak, ↓u_mCont, ↓u_mDisp, ↓u_bYes, ↓u_oI, ↓u_oB, ↓u_oIs, ↓u_oEqT, ↓u_seqT, ↓u_seqL, ↓u_seqS, ↓mSl_eq, slW_tup, slW_lst, List.map_cons, List.map_nil, List.length_cons, List.length_nil, List.cons_append, List.nil_append, List.getElem?_cons_zero, List.getElem?_cons_succ, List.set_cons_zero, List.set_cons_succ, List.replicate, Nat.reduceAdd, Nat.reduceSub, Nat.zero_add, if_true, Bool.false_eq_true, if_false, Bool.true_eq_false, reduceIte, t_law_folded_b2]
    refine ix_ints items_last hx ⟨trivial, ?_⟩
    rw [e2]
    refine ix_ints items_last hy ?_
    refine ⟨Bd.cmul (a := 31) (b := 16) (by unfold Bd; omega) (by unfold Bd; decide), ?_⟩
    simp only [add_int, u_oI]
    refine ⟨by omega, ?_⟩
    refine put_last (by rw [List.length_map, g.1]; omega) ?_
    rw [← List.map_set]
    subst hcc
    exact fold_loop2 ks _ _ (g.set (by omega) (by omega)) (fun j hj => hk j (by simp [hj])) h
def sp_law_folded : FT := fun ws s q _ => ∃ is, ws = [.scr is] ∧ ∀ cs, Good64 cs → q (.lst (cs.map W.int)) s
theorem ok_law_folded : ∀ ws s q e, sp_law_folded ws s q e → gc (fnM 4 t_law_folded) ws s q e := by
  rintro ws s q e ⟨is, rfl, h⟩
  show fnM 4 t_law_folded _ s _ _
  simp only [↓u_fnM, ↓u_mSeq, ↓u_mIfS, ↓u_mRet, ↓u_mRetN, ↓u_mSet, ↓u_mExpr, ↓u_mVar, ↓u_mK, ↓u_mBin, ↓u_mUn, ↓u_mChain, ↓u_mT, ↓u_mAnd, ↓u_mOr, ↓u_mNot, ↓u_bAnd, ↓u_bOr, ↓u_bNot, ↓u_mIf, ↓u_mFn, ↓u_mTup, ↓u_mLst, ↓u_mNew, ↓u_mCons, ↓u_mNil, ↓u_mCall, ↓u_mNext, ↓u_mAsg, ↓u_mFor, ↓u_mComp, ↓u_mCompN, ↓u_iSeqM, ↓u_mEnum, ↓u_mZip, ↓u_mPar2, ↓u_mPar3, ↓u_mPut, ↓u_mAug, ↓u_mAugS, ↓u_mBM, ↓u_mBM0, ↓u_mCallK, ↓u_mListRg, ↓u_mListRgN, ↓u_mTupRg, ↓u_mRg1, ↓u_mRg2, ↓u_iRngM1, ↓u_iRngM2, ↓u_pAt, ↓u_pNo, ↓u_mIsi, ↓u_mNever, ↓u_gtTp, ↓u_gtCons, ↓u_gtNil, ↓u_gtNm, ↓u_gtSub, ↓u_mBreak, ↓u_mCont, ↓u_mDisp, ↓u_bYes, ↓u_oI, ↓u_oB, ↓u_oIs, ↓u_oEqT, ↓u_seqT, ↓u_seqL, ↓u_seqS, ↓mSl_eq, slW_tup, slW_lst, List.map_cons, List.map_nil, List.length_cons, List.length_nil, List.cons_append, List.nil_append, List.getElem?_cons_zero, List.getElem?_cons_succ, List.set_cons_zero, List.set_cons_succ, List.replicate, Nat.reduceAdd, Nat.reduceSub, Nat.zero_add, if_true, Bool.false_eq_true, if_false, Bool.true_eq_false, reduceIte, t_law_folded]
  refine ⟨⟨by omega, by omega⟩, ?_⟩
  rw [show (64 : Int).toNat = 64 from rfl, rangeW_map]
  refine compL_map (fun (i : Nat) => W.int (i : Int)) (fun (i : Nat) => some (.int (17 + (i : Int)))) (List.range 64) [] (fun i _ => ⟨_, rfl, fun k e hk => hk, fun y hy k e hk => ?_⟩) (by simp; exact leW _ (by omega)) (fun _ h => by simp at h) ?_
  · cases hy
    simp only [↓u_fnM, ↓u_mSeq, ↓u_mIfS, ↓u_mRet, ↓u_mRetN, ↓u_mSet, ↓u_mExpr, ↓u_mVar, ↓u_mK, ↓u_mBin, ↓u_mUn, ↓u_mChain, ↓u_mT, ↓u_mAnd, ↓u_mOr, ↓u_mNot, ↓u_bAnd, ↓u_bOr, ↓u_bNot, ↓u_mIf, ↓u_mFn, ↓u_mTup, ↓u_mLst, ↓u_mNew, ↓u_mCons, ↓u_mNil, ↓u_mCall, ↓u_mNext, ↓u_mAsg, ↓u_mFor, ↓u_mComp, ↓u_mCompN, ↓u_iSeqM, ↓u_mEnum, ↓u_mZip, ↓u_mPar2, ↓u_mPar3, ↓u_mPut, ↓u_mAug, ↓u_mAugS, ↓u_mBM, ↓u_mBM0, ↓u_mCallK, ↓u_mListRg, ↓u_mListRgN, ↓u_mTupRg, ↓u_mRg1, ↓u_mRg2, ↓u_iRngM1, ↓u_iRngM2, ↓u_pAt, ↓u_pNo, ↓u_mIsi, ↓u_mNever, ↓u_gtTp, ↓u_gtCons, ↓u_gtNil, ↓u_gtNm, ↓u_gtSub, ↓u_mBreak, ↓u_mCont, ↓u_mDisp, ↓u_bYes, ↓u_oI, ↓u_oB, ↓u_oIs, ↓u_oEqT, ↓u_seqT, ↓u_seqL, ↓u_seqS, ↓mSl_eq, slW_tup, slW_lst, List.map_cons, List.map_nil, List.length_cons, List.length_nil, List.cons_append, List.nil_append, List.getElem?_cons_zero, List.getElem?_cons_succ, List.set_cons_zero, List.set_cons_succ, List.replicate, Nat.reduceAdd, Nat.reduceSub, Nat.zero_add, if_true, Bool.false_eq_true, if_false, Bool.true_eq_false, reduceIte, wipeL, add_int]
    exact hk
  · have e0 : ([] : List W) ++ (List.range 64).filterMap (fun (i : Nat) => some (W.int (17 + (i : Int)))) = ((List.range 64).map fun (i : Nat) => 17 + (i : Int)).map W.int := by
      rw [List.nil_append, List.map_map, ← List.filterMap_eq_map]; rfl
    rw [e0]
    simp only [seqVals]
    rw [enum_map (fun i => W.int i) is]
    refine fold_loop1 is.zipIdx _ none none ⟨by simp, fun c hc => ?_⟩ fun cs x2 x3 g => ?_
    · obtain ⟨i, hi, rfl⟩ := List.mem_map.mp hc
      have := List.mem_range.mp hi
      omega
    · refine ⟨⟨by omega, by omega⟩, ⟨by omega, by omega⟩, ?_⟩
      refine fold_loop2 (List.range 63) cs _ g (fun k hk => List.mem_range.mp hk) fun cs x2 g => ?_
      exact gcQ.same (.new (Nat.le_refl _) get_last (frz_ints _)) (h cs g)
end Fw

set_option maxRecDepth 100000
set_option maxHeartbeats 4000000
namespace Fw
open PySem PySem.Spec PyProof.Rows L2

/-! ## drawing a number -/
section
variable {s : S} {n : Nat} {cs gs : List Int} {k : Int}
theorem cellD_orc (h : n < s.length) : cellD' (.ref n) (orcS s n cs gs k) = some (n, [(.inr "cells", .lst (cs.map W.int)), (.inr "great", .ref (n + 1)), (.inr "spot", .int k)]) := by
  unfold cellD'
  simp only [orcS_n h]
theorem get_spot (h : n < s.length) {q : QW} (p : q (.int k) (orcS s n cs gs k)) : oDGet (.ref n) (.str "spot") (orcS s n cs gs k) q := by
  unfold oDGet
  rw [cellD_orc h]
  exact p
theorem get_great (h : n < s.length) {q : QW} (p : q (.ref (n + 1)) (orcS s n cs gs k)) : oDGet (.ref n) (.str "great") (orcS s n cs gs k) q := by
  unfold oDGet
  rw [cellD_orc h]
  exact p
theorem get_cells (h : n < s.length) {q : QW} (p : q (.lst (cs.map W.int)) (orcS s n cs gs k)) : oDGet (.ref n) (.str "cells") (orcS s n cs gs k) q := by
  unfold oDGet
  rw [cellD_orc h]
  exact p
theorem put_spot (h : n < s.length) {k' : Int} {q : S → Prop} (p : q (orcS s n cs gs k')) : oDPut (.ref n) (.str "spot") (.int k') (orcS s n cs gs k) q := by
  unfold oDPut
  rw [cellD_orc h]
  refine ⟨by show 3 < sizeLine; decide, ?_⟩
  have e : (orcS s n cs gs k).set n (.dct [(.inr "cells", .lst (cs.map W.int)), (.inr "great", .ref (n + 1)), (.inr "spot", .int k')]) = orcS s n cs gs k' := by
    unfold orcS
    rw [List.set_comm _ _ (show n + 1 ≠ n by omega), List.set_set]
  rw [← e] at p
  exact p
theorem put_great (h : n + 1 < s.length) {i : Nat} (hi : i < gs.length) {y : Int} {q : S → Prop} (p : q (orcS s n cs (gs.set i y) k)) : oPut (.ref (n + 1)) (.int (i : Int)) (.int y) (orcS s n cs gs k) q := by
  unfold oPut cellL
  simp only [orcS_g h]
  have e : ixN (gs.map W.int).length (i : Int) = some i := by
    unfold ixN
    rw [List.length_map, if_pos (by omega), if_pos (by omega)]; simp
  simp only [e]
  have e2 : (orcS s n cs gs k).set (n + 1) (.lst ((gs.map W.int).set i (.int y))) = orcS s n cs (gs.set i y) k := by
    unfold orcS
    rw [List.set_set, List.map_set]
  rw [e2]
  exact p
theorem items_great (h : n + 1 < s.length) : itemsOf (.ref (n + 1)) (orcS s n cs gs k) = some (gs.map W.int) := by
  unfold itemsOf
  simp only [orcS_g h]
theorem eq_great (h : n + 1 < s.length) {q : QW} (p : q (.bl (decide (gs ≠ []))) (orcS s n cs gs k)) : oEq true (.ref (n + 1)) (.lst []) (orcS s n cs gs k) q := by
  have hd : datS (orcS s n cs gs k) (.ref (n + 1)) = some (.list (gs.map PyData.int)) := by
    show cellD _ 3 (n + 1) = _
    simp only [cellD, orcS_g h, dats_ints]
    rfl
  have he : datS (orcS s n cs gs k) (.lst []) = some (.list []) := rfl
  unfold oEq
  rw [hd, he]
  have h1 := shaped_list_ints gs
  have h2 : SeqAt.shaped (.list []) = true := rfl
  have h3 : (true != PyData.eqv (.list (gs.map PyData.int)) (.list [])) = decide (gs ≠ []) := by
    cases gs <;> simp [PyData.eqv, PyData.eqvAll]
  simp only [h1, h2, h3, Bool.and_self, true_and]
  exact p
end
def sp_draw_c : FT := fun ws s q _ => ∃ (s0 : S) (n b : Nat) (cs gs : List Int) (k top : Int), ws = [.ref n, .int top] ∧ s = orcS s0 n cs gs k ∧ n + 1 < s0.length ∧ orcGood cs gs k (b + 1) ∧ 0 < top ∧ Bd top 64 ∧
  ∀ v gs', 0 ≤ v → v < top → orcGood cs gs' (k + 1) b → q (.int v) (orcS s0 n cs gs' (k + 1))
theorem ok_draw_c : ∀ ws s q e, sp_draw_c ws s q e → fnM 5 (t_law_draw sp_law_mixed) ws s q e := by
  rintro ws s q e ⟨s0, n, b, cs, gs, k, top, rfl, rfl, hn, ⟨g1, g2, g3, g4, g5, g6⟩, ht, bt, h⟩
  have hn0 : n < s0.length := by omega
  have good : ∀ gs' : List Int, (∀ g ∈ gs', 0 ≤ g) → gs'.length ≤ 64 → orcGood cs gs' (k + 1) b := fun gs' a1 a2 => ⟨g1, g2, a1, a2, by omega, by omega⟩
  have bk : Bd k 65 := by unfold Bd; omega
  -- what is drawn when the great numbers are used up
  have fin : ∀ e1 e2 : QX, oDGet (.ref n) (.str "cells") (orcS s0 n cs gs (k + 1)) (fun x s1 => oMod (.int k) (.int 64) s1 fun y s2 => oIx x y s2 fun x s1 => oDiv (.int k) (.int 64) s1 fun y s2 => oMul (.int 31) y s2 fun y s2 => oAdd x y s2 fun w s1 =>
      True ∧ sp_law_mixed [w, .int k] s1 (fun w s1 => True ∧ sp_law_mixed [w, .int (k + 7)] s1 (fun x s1 => oMod x (.int top) s1 q) e1) e2) := by
    intro e1 e2
    obtain ⟨x, hx, x0, x1⟩ := Good64.at ⟨g1, g2⟩ (i := (k % 64).toNat) (by omega)
    refine get_cells hn0 ⟨by omega, ?_⟩
    dsimp only
    rw [show k % 64 = (((k % 64).toNat : Nat) : Int) by omega]
    refine ix_ints rfl hx ?_
    have b64 : Bd (k / 64) 65 := by unfold Bd at *; omega
    have b31 : Bd 31 5 := by unfold Bd; decide
    refine ⟨cdiv (b := 7) (by omega) (by unfold Bd; decide), b31.cmul b64, ?_⟩
    simp only [add_int]
    have bb : Bd (x + 31 * (k / 64)) 71 := Bd.add (a := 31) (b := 70) (by unfold Bd; omega) (b31.mul b64)
    refine ⟨trivial, _, k, rfl, by omega, bb.mono (by decide), g5, bk.mono (by decide), fun v v0 v1 => ?_⟩
    refine ⟨trivial, v, k + 7, rfl, v0, by unfold Bd; omega, by omega, by unfold Bd; omega, fun v2 v3 v4 => ?_⟩
    refine ⟨ht, ?_⟩
    exact h (v2 % top) gs (Int.emod_nonneg _ (by omega)) (Int.emod_lt_of_pos _ ht) (good gs g3 g4)
  simp only [↓u_fnM, ↓u_mSeq, ↓u_mIfS, ↓u_mRet, ↓u_mRetN, ↓u_mSet, ↓u_mExpr, ↓u_mVar, ↓u_mK, ↓u_mBin, ↓u_mUn, ↓u_mChain, ↓u_mT, ↓u_mAnd, ↓u_mOr, ↓u_mNot, ↓u_bAnd, ↓u_bOr, ↓u_bNot, ↓u_mIf, ↓u_mFn, ↓u_mTup, ↓u_mLst, ↓u_mNew, ↓u_mCons, ↓u_mNil, ↓u_mCall, ↓u_mNext, ↓u_mAsg, ↓u_mFor, ↓u_mComp, ↓u_mCompN, ↓u_iSeqM, ↓u_mEnum, ↓u_mZip, ↓u_mPar2, ↓u_mPar3, ↓u_mPut, ↓u_mAug, ↓u_mAugS, ↓u_mBM, ↓u_mBM0, ↓u_mCallK, ↓u_mListRg, ↓u_mListRgN, ↓u_mTupRg, ↓u_mRg1, ↓u_mRg2, ↓u_iRngM1, ↓u_iRngM2, ↓u_pAt, ↓u_pNo, ↓u_mIsi, ↓u_mNever, ↓u_gtTp, ↓u_gtCons, ↓u_gtNil, ↓u_gtNm, ↓u_gtSub, ↓u_mBreak, ↓u_mCont, ↓u_mDisp, ↓u_bYes, ↓u_oI, ↓u_oB, ↓u_oIs, ↓u_oEqT, ↓u_seqT, ↓u_seqL, ↓u_seqS, ↓mSl_eq, slW_tup, slW_lst, List.map_cons, List.map_nil, List.length_cons, List.length_nil, List.cons_append, List.nil_append, List.getElem?_cons_zero, List.getElem?_cons_succ, List.set_cons_zero, List.set_cons_succ, List.replicate, Nat.reduceAdd, Nat.reduceSub, Nat.zero_add, if_true, Bool.false_eq_true, if_false, Bool.true_eq_false, reduceIte, t_law_draw]
  refine get_spot hn0 ?_
  simp only [add_int]
  refine put_spot hn0 ?_
  refine get_great hn0 ⟨by show 0 ≤ sizeLine; omega, eq_great hn ?_⟩
  by_cases hg : gs = []
  · simp only [hg, ne_eq, not_true_eq_false, decide_false, Bool.false_eq_true, if_false]
    rw [hg] at fin
    exact fin _ _
  · simp only [hg, ne_eq, not_false_eq_true, decide_true, if_true]
    have hpos : 0 < gs.length := List.length_pos_iff.mpr hg
    refine get_great hn0 ?_
    simp only [oLen, lenOf, items_great hn, Option.map_some, List.length_map]
    refine ⟨by omega, ?_⟩
    refine get_great hn0 ?_
    have hm : k % (gs.length : Int) = (((k % (gs.length : Int)).toNat : Nat) : Int) := by
      have := Int.emod_nonneg k (show (gs.length : Int) ≠ 0 by omega)
      omega
    have hlt : (k % (gs.length : Int)).toNat < gs.length := by
      have := Int.emod_lt_of_pos k (show 0 < (gs.length : Int) by omega)
      omega
    dsimp only
    rw [hm]
    refine ix_ints (items_great hn) (List.getElem?_eq_getElem hlt) ?_
    generalize hi : (k % (gs.length : Int)).toNat = i at *
    have hc0 := g3 _ (List.getElem_mem hlt)
    simp only [u_oB]
    by_cases hc : 0 < gs[i]
    · simp only [hc, decide_true, if_true]
      refine ⟨cdiv (b := 64) ht bt, ?_⟩
      refine get_great hn0 (put_great hn hlt ⟨ht, ?_⟩)
      refine h _ _ (Int.emod_nonneg _ (by omega)) (Int.emod_lt_of_pos _ ht) (good _ (fun g hgm => ?_) (by rw [List.length_set]; exact g4))
      rcases List.mem_or_eq_of_mem_set hgm with hgm | rfl
      · exact g3 g hgm
      · exact Int.ediv_nonneg hc0 (by omega)
    · simp only [hc, decide_false, Bool.false_eq_true, if_false]
      exact fin _ _
end Fw

set_option maxRecDepth 100000
set_option maxHeartbeats 4000000
namespace Fw
open PySem PySem.Spec PyProof.Rows L2

/-! ## drawing, with the numbers hidden -/
def sp_law_draw : FT := fun ws s q _ => ∃ (n b : Nat) (top : Int), ws = [.ref n, .int top] ∧ s[n]? = some (.orc (b + 1)) ∧ 0 < top ∧ Bd top 64 ∧ ∀ v, 0 ≤ v → v < top → q (.int v) (s.set n (.orc b))
theorem draw_veil {G : Gx} : ∀ vs H Q E, spG G 2 sp_law_draw vs H Q E → spG G 2 sp_draw_c vs H Q E := by
  rintro vs H Q E ⟨hl, ws, s, m, q, e, hw, hS, ⟨n, b, top, rfl, hn, ht, bt, h⟩, hq, hx⟩
  obtain ⟨cs, gs, k, good, hS'⟩ := hS.look hn
  have hax := hS.orc n _ hn
  have hlt := (List.getElem?_eq_some_iff.mp hax).1
  refine ⟨hl, _, orcS s n cs gs k, m, fun w s' => ∃ v gs', w = .int v ∧ 0 ≤ v ∧ v < top ∧ orcGood cs gs' (k + 1) b ∧ s' = orcS s n cs gs' (k + 1), e, hw, hS', ?_, ?_, hx⟩
  · exact ⟨s, n, b, cs, gs, k, top, rfl, rfl, hlt, good, ht, bt, fun v gs' v0 v1 g => ⟨v, gs', rfl, v0, v1, g, rfl⟩⟩
  · rintro w s' ⟨v, gs', rfl, v0, v1, g, rfl⟩ m' H' u ex hS2 hu
    exact hq _ _ (h v v0 v1) m' H' u ex (hS2.veil hn hax hS.orc g) hu
def begS (s : S) (cs gs : List Int) : S := s ++ [.dct [(.inr "cells", .lst (cs.map W.int)), (.inr "great", .ref (s.length + 1)), (.inr "spot", .int 0)], .lst (gs.map W.int)]
def sp_begun_c : FT := fun ws s q _ => ∃ is, ws = [.scr is] ∧ is.length ≤ 63 ∧ ∀ cs gs : List Int, Good64 cs → (∀ g ∈ gs, 0 ≤ g) → gs.length ≤ 64 → q (.ref s.length) (begS s cs gs)
theorem get_app1 {s t : S} {c : Cell} : (s ++ c :: t)[s.length]? = some c := by simp
theorem set_app1 {s t : S} {c d : Cell} : (s ++ c :: t).set s.length d = s ++ d :: t := by simp
theorem ok_begun_c : ∀ ws s q e, sp_begun_c ws s q e → fnM 3 (t_law_begun sp_law_folded) ws s q e := by
  rintro ws s q e ⟨is, rfl, hl, h⟩
  simp only [↓u_fnM, ↓u_mSeq, ↓u_mIfS, ↓u_mRet, ↓u_mRetN, ↓u_mSet, ↓u_mExpr, ↓u_mVar, ↓u_mK, ↓u_mBin, ↓u_mUn, ↓u_mChain, ↓u_mT, ↓u_mAnd, ↓u_mOr, ↓u_mNot, ↓u_bAnd, ↓u_bOr, ↓u_bNot, ↓u_mIf, ↓u_mFn, ↓u_mTup, ↓u_mLst, ↓u_mNew, ↓u_mCons, ↓u_mNil, ↓u_mCall, ↓u_mNext, ↓u_mAsg, ↓u_mFor, ↓u_mComp, ↓u_mCompN, ↓u_iSeqM, ↓u_mEnum, ↓u_mZip, ↓u_mPar2, ↓u_mPar3, ↓u_mPut, ↓u_mAug, ↓u_mAugS, ↓u_mBM, ↓u_mBM0, ↓u_mCallK, ↓u_mListRg, ↓u_mListRgN, ↓u_mTupRg, ↓u_mRg1, ↓u_mRg2, ↓u_iRngM1, ↓u_iRngM2, ↓u_pAt, ↓u_pNo, ↓u_mIsi, ↓u_mNever, ↓u_gtTp, ↓u_gtCons, ↓u_gtNil, ↓u_gtNm, ↓u_gtSub, ↓u_mBreak, ↓u_mCont, ↓u_mDisp, ↓u_bYes, ↓u_oI, ↓u_oB, ↓u_oIs, ↓u_oEqT, ↓u_seqT, ↓u_seqL, ↓u_seqS, ↓mSl_eq, slW_tup, slW_lst, List.map_cons, List.map_nil, List.length_cons, List.length_nil, List.cons_append, List.nil_append, List.getElem?_cons_zero, List.getElem?_cons_succ, List.set_cons_zero, List.set_cons_succ, List.replicate, Nat.reduceAdd, Nat.reduceSub, Nat.zero_add, if_true, Bool.false_eq_true, if_false, Bool.true_eq_false, reduceIte, t_law_begun]
  refine ⟨trivial, is, rfl, fun cs g => ⟨by show 0 ≤ sizeLine; omega, ?_⟩⟩
  refine ⟨get_last, ?_⟩
  rw [set_last]
  have e1 : mergeW [] ((([("cells" : Str), "great", "spot"] : List Str).map (Sum.inr : Str → Key)).zip [W.lst (cs.map W.int), .lst [], .int 0]) = [(.inr "cells", .lst (cs.map W.int)), (.inr "great", .lst []), (.inr "spot", .int 0)] := rfl
  simp only [List.map_cons, List.map_nil] at e1
  rw [e1]
  have e18 : (10 : Int) ^ (18 : Int).toNat = 1000000000000000000 := by decide
  refine compL_map (fun i : Int => W.int i) (fun i => some (.int (if 1000000000000000000 ≤ i then i else 0))) is [] (fun i _ => ⟨_, rfl, fun k e hk => hk, fun y hy k e hk => ?_⟩) (by simp only [List.length_nil]; exact leW _ (by omega)) (fun _ h => by simp at h) ?_
  · cases hy
    simp only [↓u_fnM, ↓u_mSeq, ↓u_mIfS, ↓u_mRet, ↓u_mRetN, ↓u_mSet, ↓u_mExpr, ↓u_mVar, ↓u_mK, ↓u_mBin, ↓u_mUn, ↓u_mChain, ↓u_mT, ↓u_mAnd, ↓u_mOr, ↓u_mNot, ↓u_bAnd, ↓u_bOr, ↓u_bNot, ↓u_mIf, ↓u_mFn, ↓u_mTup, ↓u_mLst, ↓u_mNew, ↓u_mCons, ↓u_mNil, ↓u_mCall, ↓u_mNext, ↓u_mAsg, ↓u_mFor, ↓u_mComp, ↓u_mCompN, ↓u_iSeqM, ↓u_mEnum, ↓u_mZip, ↓u_mPar2, ↓u_mPar3, ↓u_mPut, ↓u_mAug, ↓u_mAugS, ↓u_mBM, ↓u_mBM0, ↓u_mCallK, ↓u_mListRg, ↓u_mListRgN, ↓u_mTupRg, ↓u_mRg1, ↓u_mRg2, ↓u_iRngM1, ↓u_iRngM2, ↓u_pAt, ↓u_pNo, ↓u_mIsi, ↓u_mNever, ↓u_gtTp, ↓u_gtCons, ↓u_gtNil, ↓u_gtNm, ↓u_gtSub, ↓u_mBreak, ↓u_mCont, ↓u_mDisp, ↓u_bYes, ↓u_oI, ↓u_oB, ↓u_oIs, ↓u_oEqT, ↓u_seqT, ↓u_seqL, ↓u_seqS, ↓mSl_eq, slW_tup, slW_lst, List.map_cons, List.map_nil, List.length_cons, List.length_nil, List.cons_append, List.nil_append, List.getElem?_cons_zero, List.getElem?_cons_succ, List.set_cons_zero, List.set_cons_succ, List.replicate, Nat.reduceAdd, Nat.reduceSub, Nat.zero_add, if_true, Bool.false_eq_true, if_false, Bool.true_eq_false, reduceIte, wipeL, oPow]
    refine ⟨⟨by omega, by omega, by decide⟩, ?_⟩
    simp only [e18]
    by_cases hi : 1000000000000000000 ≤ i
    · simp only [hi, decide_true, if_true] at hk ⊢; exact hk
    · simp only [hi, decide_false, if_false, Bool.false_eq_true] at hk ⊢; exact hk
  · have e0 : ([] : List W) ++ is.filterMap (fun i => some (W.int (if 1000000000000000000 ≤ i then i else 0))) = (is.map fun i => if 1000000000000000000 ≤ i then i else 0).map W.int := by
      rw [List.nil_append, List.map_map, ← List.filterMap_eq_map]; rfl
    rw [e0]
    unfold oDPut
    have e2 : cellD' (.ref s.length) ((s ++ [Cell.dct [(.inr "cells", .lst (cs.map W.int)), (.inr "great", .lst []), (.inr "spot", .int 0)]]) ++ [.lst ((is.map fun i => if 1000000000000000000 ≤ i then i else 0).map W.int)]) = some (s.length, [(.inr "cells", .lst (cs.map W.int)), (.inr "great", .lst []), (.inr "spot", .int 0)]) := by
      unfold cellD'
      rw [List.append_assoc, List.singleton_append]
      simp only [get_app1]
    simp only [e2]
    refine ⟨by show 3 < sizeLine; decide, ?_⟩
    have e3 : ((s ++ [Cell.dct [(.inr "cells", .lst (cs.map W.int)), (.inr "great", .lst []), (.inr "spot", .int 0)]]) ++ [Cell.lst ((is.map fun i => if 1000000000000000000 ≤ i then i else 0).map W.int)]).set s.length
        (.dct (putW [(.inr "cells", .lst (cs.map W.int)), (.inr "great", .lst []), (.inr "spot", .int 0)] (.inr "great") (.ref (s ++ [Cell.dct [(.inr "cells", .lst (cs.map W.int)), (.inr "great", .lst []), (.inr "spot", .int 0)]]).length))) = begS s cs (is.map fun i => if 1000000000000000000 ≤ i then i else 0) := by
      rw [List.append_assoc, List.singleton_append, set_app1, List.length_append]
      rfl
    have := h cs (is.map fun i => if 1000000000000000000 ≤ i then i else 0) g (fun x hx => by
      obtain ⟨i, _, rfl⟩ := List.mem_map.mp hx
      split <;> omega) (by rw [List.length_map]; omega)
    rw [← e3] at this
    exact this
def sp_law_begun : FT := fun ws s q _ => ∃ is, ws = [.scr is] ∧ is.length ≤ 63 ∧ q (.ref s.length) (s ++ [.orc (2 ^ 63), .aux])
theorem begun_veil {G : Gx} : ∀ vs H Q E, spG G 1 sp_law_begun vs H Q E → spG G 1 sp_begun_c vs H Q E := by
  rintro vs H Q E ⟨hl, ws, s, m, q, e, hw, hS, ⟨is, rfl, hi, h⟩, hq, hx⟩
  refine ⟨hl, _, s, m, fun w s' => ∃ cs gs, w = .ref s.length ∧ Good64 cs ∧ (∀ g ∈ gs, 0 ≤ g) ∧ gs.length ≤ 64 ∧ s' = begS s cs gs, e, hw, hS, ?_, ?_, hx⟩
  · exact ⟨is, rfl, hi, fun cs gs g1 g2 g3 => ⟨cs, gs, rfl, g1, g2, g3, rfl⟩⟩
  · rintro w s' ⟨cs, gs, rfl, g1, g2, g3, rfl⟩ m' H' u ex hS2 hu
    have e1 : begS s cs gs = orcS (s ++ [.orc (2 ^ 63), .aux]) s.length cs gs 0 := by
      unfold begS orcS
      rw [set_app1]
      have : (s ++ [Cell.dct [(.inr "cells", .lst (cs.map W.int)), (.inr "great", .ref (s.length + 1)), (.inr "spot", .int 0)], Cell.aux]).set (s.length + 1) (.lst (gs.map W.int)) = s ++ [Cell.dct [(.inr "cells", .lst (cs.map W.int)), (.inr "great", .ref (s.length + 1)), (.inr "spot", .int 0)], .lst (gs.map W.int)] := by
        rw [List.set_append_right _ _ (by omega), show s.length + 1 - s.length = 1 by omega]
        rfl
      rw [this]
    rw [e1] at hS2
    have hn : (s ++ [Cell.orc (2 ^ 63), .aux])[s.length]? = some (.orc (2 ^ 63)) := get_app1
    have hax : (s ++ [Cell.orc (2 ^ 63), .aux])[s.length + 1]? = some .aux := by
      rw [List.getElem?_append_right (by omega), show s.length + 1 - s.length = 1 by omega]; rfl
    have ho : ∀ i b, (s ++ [Cell.orc (2 ^ 63), .aux])[i]? = some (.orc b) → (s ++ [Cell.orc (2 ^ 63), .aux])[i + 1]? = some .aux := by
      intro i b hb
      by_cases h1 : i < s.length
      · rw [List.getElem?_append_left h1] at hb
        have := hS.orc i b hb
        rw [List.getElem?_append_left (List.getElem?_eq_some_iff.mp this).1]
        exact this
      · by_cases h2 : i = s.length
        · subst h2; exact hax
        · rw [List.getElem?_append_right (by omega)] at hb
          have h3 := (List.getElem?_eq_some_iff.mp hb).1
          simp at h3
          have : i - s.length = 1 := by omega
          rw [this] at hb
          cases hb
    have r := hS2.veil (b := 2 ^ 63) hn hax ho ⟨g1.1, g1.2, g2, g3, by omega, by decide⟩
    rw [set_app1] at r
    exact hq _ _ h m' H' u ex r hu
end Fw

set_option maxRecDepth 100000
set_option maxHeartbeats 4000000
namespace Fw
open PySem PySem.Spec PyProof.Rows L2

/-! ## a drawing state with cells behind it -/
section
variable {s J : S} {n b b' : Nat}
theorem orc_get (h : n < s.length) : (s.set n (.orc b) ++ J)[n]? = some (.orc b) := by
  rw [List.getElem?_append_left (by simpa using h), List.getElem?_set_self h]
theorem orc_set (h : n < s.length) : (s.set n (.orc b) ++ J).set n (.orc b') = s.set n (.orc b') ++ J := by
  rw [List.set_append_left _ _ (by simpa using h), List.set_set]
theorem orc_set0 (h : n < s.length) : (s ++ J).set n (.orc b') = s.set n (.orc b') ++ J := by
  rw [List.set_append_left _ _ h]
theorem orc_same (h : s[n]? = some (.orc b)) : s.set n (.orc b) = s := by
  apply List.ext_getElem?
  intro i
  by_cases hi : n = i
  · subst hi
    rw [List.getElem?_set_self (List.getElem?_eq_some_iff.mp h).1, h]
  · rw [List.getElem?_set_ne hi]
theorem cell_at {c : Cell} {i : Nat} (h : J[i]? = some c) : (s ++ J)[s.length + i]? = some c := by
  rw [List.getElem?_append_right (by omega), show s.length + i - s.length = i by omega, h]
theorem cell_set {c : Cell} {i : Nat} : (s ++ J).set (s.length + i) c = s ++ J.set i c := by
  rw [List.set_append_right _ _ (by omega), show s.length + i - s.length = i by omega]
end
theorem orc_len {s : S} {n b : Nat} : (s.set n (.orc b)).length = s.length := by simp
/-- cells L, L+1 .. behind a state of length L -/
theorem cellL_at {A J : S} {L i : Nat} {xs : List W} (hL : A.length = L) (h : J[i]? = some (.lst xs)) : cellL (.ref (L + i)) (A ++ J) = some (L + i, xs) := by
  unfold cellL
  subst hL
  simp only [cell_at h]
theorem lstOf_at {A J : S} {L i : Nat} {xs : List W} (hL : A.length = L) (h : J[i]? = some (.lst xs)) : lstOf (.ref (L + i)) (A ++ J) = some xs := by
  unfold lstOf
  subst hL
  simp only [cell_at h]
theorem itemsOf_at {A J : S} {L i : Nat} {xs : List W} (hL : A.length = L) (h : J[i]? = some (.lst xs)) : itemsOf (.ref (L + i)) (A ++ J) = some xs := by
  unfold itemsOf
  subst hL
  simp only [cell_at h]
theorem append_at {A J : S} {L i : Nat} {xs : List W} {y : W} {q : QW} (hL : A.length = L) (h : J[i]? = some (.lst xs)) (hs : xs.length < sizeLine) (k : q .non (A ++ J.set i (.lst (xs ++ [y])))) : oAppend (.ref (L + i)) [y] (A ++ J) q := by
  unfold oAppend
  rw [cellL_at hL h]
  refine ⟨hs, ?_⟩
  subst hL
  rw [cell_set]
  exact k
theorem isLst_at {A J : S} {L i : Nat} {xs : List W} (hL : A.length = L) (h : J[i]? = some (.lst xs)) : isLst (.ref (L + i)) (A ++ J) = true := by
  unfold isLst
  rw [lstOf_at hL h]; rfl
theorem pop_at {A J : S} {L i j : Nat} {xs : List W} {y : W} {q : QW} (hL : A.length = L) (h : J[i]? = some (.lst xs)) (hj : xs[j]? = some y) (hs : xs.length ≤ 1000) (k : q y (A ++ J.set i (.lst (xs.eraseIdx j)))) : oPop (.ref (L + i)) [.int (j : Int)] (A ++ J) q := by
  have hl := (List.getElem?_eq_some_iff.mp hj).1
  unfold oPop
  rw [cellL_at hL h]
  refine ⟨by omega, by omega, ?_⟩
  have e : seqIndex? (j : Int) xs.length = some j := (ixN_seq (show ixN xs.length (j : Int) = some j by
    unfold ixN
    rw [if_pos (by omega), if_pos (by omega)]; simp)).1
  simp only [e, hj]
  subst hL
  rw [cell_set]
  exact k
theorem len_at {A J : S} {L i : Nat} {xs : List W} {q : QW} (hL : A.length = L) (h : J[i]? = some (.lst xs)) (k : q (.int xs.length) (A ++ J)) : oLen [.ref (L + i)] (A ++ J) q := by
  simp only [oLen, lenOf, itemsOf_at hL h, Option.map_some]
  exact k

theorem erase_perm {α : Type} : ∀ (xs : List α) (j : Nat) (h : j < xs.length), (xs[j] :: xs.eraseIdx j).Perm xs
  | x :: xs, 0, _ => List.Perm.refl _
  | x :: xs, j + 1, h => (List.Perm.swap x (xs[j]'(by simpa using h)) _).trans ((erase_perm xs j (by simpa using h)).cons x)
/-! ## _law_mixed_up -/
theorem mix_loop {s : S} {n : Nat} {c : Cn} {x1 : Option W} (hn : n < s.length) : ∀ (ks : List Nat) (st fd : List W) (b : Nat) (x4 : Option W), ks.length = st.length → st.length ≤ b → st.length + fd.length ≤ 1000 →
    (∀ fd' x4, fd'.Perm (fd ++ st) → c.nx [some (.ref n), x1, some (.ref (s.length + 0)), some (.ref (s.length + 1)), x4] (s.set n (.orc (b - st.length)) ++ [.lst [], .lst fd'])) →
    forL (.nm 4) (t_law_mixed_up_b1 sp_law_draw) [] (nW ks) [some (.ref n), x1, some (.ref (s.length + 0)), some (.ref (s.length + 1)), x4] (s.set n (.orc b) ++ [.lst st, .lst fd]) c
  | [], st, fd, b, x4, hk, _, _, h => by
    have : st = [] := List.length_eq_zero_iff.mp hk.symm
    subst this
    exact ⟨fun _ h => by simp at h, by simpa using h fd x4 (by simp)⟩
  | k :: ks, st, fd, b, x4, hk, hb, hl, h => by
    refine ⟨fun _ h => by simp at h, ?_⟩
    have hk' : st.length = ks.length + 1 := by simpa using hk.symm
    simp only [asg, List.set_cons_succ, List.set_cons_zero]
    generalize hcc : Cn.mk _ _ _ _ _ = c'
    simp only [↓u_fnM, ↓u_mSeq, ↓u_mIfS, ↓u_mRet, ↓u_mRetN, ↓u_mSet, ↓u_mExpr, ↓u_mVar, ↓u_mK, ↓u_mBin, ↓u_mUn, ↓u_mChain, ↓u_mT, ↓u_mAnd, ↓u_mOr, ↓u_mNot, ↓u_bAnd, ↓u_bOr, ↓u_bNot, ↓u_mIf, ↓u_mFn, ↓u_mTup, ↓u_mLst, ↓u_mNew, ↓u_mCons, ↓u_mNil, ↓u_mCall, ↓u_mNext, ↓u_mAsg, ↓u_mFor, ↓u_mComp, ↓u_mCompN, ↓u_iSeqM, ↓u_mEnum, ↓u_mZip, ↓u_mPar2, ↓u_mPar3, ↓u_mPut, ↓u_mAug, ↓u_mAugS, ↓u_mBM, ↓u_mBM0, ↓u_mCallK, ↓u_mListRg, ↓u_mListRgN, ↓u_mTupRg, ↓u_mRg1, ↓u_mRg2, ↓u_iRngM1, ↓u_iRngM2, ↓u_pAt, ↓u_pNo, ↓u_mIsi, ↓u_mNever, ↓u_gtTp, ↓u_gtCons, ↓u_gtNil, ↓u_gtNm, ↓u_gtSub, ↓u_mBreak, ↓u_mCont, ↓u_mDisp, ↓u_bYes, ↓u_oI, ↓u_oB, ↓u_oIs, ↓u_oEqT, ↓u_seqT, ↓u_seqL, ↓u_seqS, ↓mSl_eq, slW_tup, slW_lst, List.map_cons, List.map_nil, List.length_cons, List.length_nil, List.cons_append, List.nil_append, List.getElem?_cons_zero, List.getElem?_cons_succ, List.set_cons_zero, List.set_cons_succ, List.replicate, Nat.reduceAdd, Nat.reduceSub, Nat.zero_add, if_true, Bool.false_eq_true, if_false, Bool.true_eq_false, reduceIte, t_law_mixed_up_b1]
    refine ⟨isLst_at (by simp) rfl, isLst_at (by simp) rfl, ?_⟩
    refine len_at (by simp) rfl ⟨trivial, n, b - 1, st.length, rfl, by rw [orc_get hn]; congr 2; omega, by omega, by unfold Bd; omega, fun v v0 v1 => ?_⟩
    rw [orc_set hn]
    obtain ⟨j, rfl⟩ : ∃ j : Nat, v = (j : Int) := ⟨v.toNat, by omega⟩
    have hj : j < st.length := by omega
    refine pop_at (by simp) rfl (List.getElem?_eq_getElem hj) (by omega) ?_
    refine append_at (i := 1) (xs := fd) (by simp) rfl (by rw [sizeLine_eq]; omega) ?_
    subst hcc
    have hlen : (st.eraseIdx j).length = st.length - 1 := by rw [List.length_eraseIdx]; simp [hj]
    refine mix_loop hn ks (st.eraseIdx j) (fd ++ [st[j]]) (b - 1) _ (by omega) (by omega) (by simp; omega) fun fd' x4 hp => ?_
    have e1 : b - 1 - (st.eraseIdx j).length = b - st.length := by omega
    rw [e1]
    refine h fd' x4 (hp.trans ?_)
    rw [List.append_assoc]
    refine List.Perm.append_left fd ?_
    exact erase_perm st j hj
def sp_law_mixed_up : FT := fun ws s q _ => ∃ (n b : Nat) (w : W) (xs : List W), ws = [.ref n, w] ∧ seqVals w s = some xs ∧ s[n]? = some (.orc b) ∧ xs.length ≤ b ∧ xs.length ≤ 1000 ∧ (∀ x ∈ xs, ∀ s', Frz s.length s' x x) ∧
  ∀ ys, ys.Perm xs → q (.lst ys) (s.set n (.orc (b - xs.length)))
theorem frzs_self {k : Nat} {s : S} : ∀ {xs : List W}, (∀ x ∈ xs, Frz k s x x) → Frzs k s xs xs
  | [], _ => .nil
  | x :: xs, h => .cons (h x (by simp)) (frzs_self fun y hy => h y (by simp [hy]))
theorem ok_law_mixed_up : ∀ ws s q e, sp_law_mixed_up ws s q e → gc (fnM 5 (t_law_mixed_up sp_law_draw)) ws s q e := by
  rintro ws s q e ⟨n, b, w, xs, rfl, hw, hn, hb, hl, hf, h⟩
  have hlt := (List.getElem?_eq_some_iff.mp hn).1
  show fnM 5 (t_law_mixed_up sp_law_draw) _ s _ _
  simp only [↓u_fnM, ↓u_mSeq, ↓u_mIfS, ↓u_mRet, ↓u_mRetN, ↓u_mSet, ↓u_mExpr, ↓u_mVar, ↓u_mK, ↓u_mBin, ↓u_mUn, ↓u_mChain, ↓u_mT, ↓u_mAnd, ↓u_mOr, ↓u_mNot, ↓u_bAnd, ↓u_bOr, ↓u_bNot, ↓u_mIf, ↓u_mFn, ↓u_mTup, ↓u_mLst, ↓u_mNew, ↓u_mCons, ↓u_mNil, ↓u_mCall, ↓u_mNext, ↓u_mAsg, ↓u_mFor, ↓u_mComp, ↓u_mCompN, ↓u_iSeqM, ↓u_mEnum, ↓u_mZip, ↓u_mPar2, ↓u_mPar3, ↓u_mPut, ↓u_mAug, ↓u_mAugS, ↓u_mBM, ↓u_mBM0, ↓u_mCallK, ↓u_mListRg, ↓u_mListRgN, ↓u_mTupRg, ↓u_mRg1, ↓u_mRg2, ↓u_iRngM1, ↓u_iRngM2, ↓u_pAt, ↓u_pNo, ↓u_mIsi, ↓u_mNever, ↓u_gtTp, ↓u_gtCons, ↓u_gtNil, ↓u_gtNm, ↓u_gtSub, ↓u_mBreak, ↓u_mCont, ↓u_mDisp, ↓u_bYes, ↓u_oI, ↓u_oB, ↓u_oIs, ↓u_oEqT, ↓u_seqT, ↓u_seqL, ↓u_seqS, ↓mSl_eq, slW_tup, slW_lst, List.map_cons, List.map_nil, List.length_cons, List.length_nil, List.cons_append, List.nil_append, List.getElem?_cons_zero, List.getElem?_cons_succ, List.set_cons_zero, List.set_cons_succ, List.replicate, Nat.reduceAdd, Nat.reduceSub, Nat.zero_add, if_true, Bool.false_eq_true, if_false, Bool.true_eq_false, reduceIte, t_law_mixed_up]
  unfold oListN
  simp only [hw]
  refine ⟨by show 0 ≤ sizeLine; omega, ?_⟩
  simp only [List.length_append, List.length_cons, List.length_nil, List.append_assoc, List.singleton_append]
  refine len_at (A := s) (i := 0) rfl rfl ⟨⟨by omega, by omega⟩, ?_⟩
  rw [show ((xs.length : Int)).toNat = xs.length by omega, rangeW_map]
  have e0 : s ++ [Cell.lst xs, .lst []] = s.set n (.orc b) ++ [.lst xs, .lst []] := by rw [orc_same hn]
  rw [e0]
  refine mix_loop hlt (List.range xs.length) xs [] b none (by simp) hb (by simpa using hl) fun fd' x4 hp => ?_
  simp only [↓u_fnM, ↓u_mSeq, ↓u_mIfS, ↓u_mRet, ↓u_mRetN, ↓u_mSet, ↓u_mExpr, ↓u_mVar, ↓u_mK, ↓u_mBin, ↓u_mUn, ↓u_mChain, ↓u_mT, ↓u_mAnd, ↓u_mOr, ↓u_mNot, ↓u_bAnd, ↓u_bOr, ↓u_bNot, ↓u_mIf, ↓u_mFn, ↓u_mTup, ↓u_mLst, ↓u_mNew, ↓u_mCons, ↓u_mNil, ↓u_mCall, ↓u_mNext, ↓u_mAsg, ↓u_mFor, ↓u_mComp, ↓u_mCompN, ↓u_iSeqM, ↓u_mEnum, ↓u_mZip, ↓u_mPar2, ↓u_mPar3, ↓u_mPut, ↓u_mAug, ↓u_mAugS, ↓u_mBM, ↓u_mBM0, ↓u_mCallK, ↓u_mListRg, ↓u_mListRgN, ↓u_mTupRg, ↓u_mRg1, ↓u_mRg2, ↓u_iRngM1, ↓u_iRngM2, ↓u_pAt, ↓u_pNo, ↓u_mIsi, ↓u_mNever, ↓u_gtTp, ↓u_gtCons, ↓u_gtNil, ↓u_gtNm, ↓u_gtSub, ↓u_mBreak, ↓u_mCont, ↓u_mDisp, ↓u_bYes, ↓u_oI, ↓u_oB, ↓u_oIs, ↓u_oEqT, ↓u_seqT, ↓u_seqL, ↓u_seqS, ↓mSl_eq, slW_tup, slW_lst, List.map_cons, List.map_nil, List.length_cons, List.length_nil, List.cons_append, List.nil_append, List.getElem?_cons_zero, List.getElem?_cons_succ, List.set_cons_zero, List.set_cons_succ, List.replicate, Nat.reduceAdd, Nat.reduceSub, Nat.zero_add, if_true, Bool.false_eq_true, if_false, Bool.true_eq_false, reduceIte]
  refine gcQ.draw hn (Nat.le_refl _) ?_ (h fd' (by simpa using hp))
  refine .new (xs := fd') (by omega) ?_ (frzs_self fun x hx => hf x ((by simpa using hp : fd'.Perm xs).mem_iff.mp hx) _)
  have := cell_at (s := s.set n (.orc (b - xs.length))) (J := [.lst [], .lst fd']) (i := 1) (c := .lst fd') rfl
  simpa using this
end Fw

set_option maxRecDepth 100000
set_option maxHeartbeats 4000000
namespace Fw
open PySem PySem.Spec PyProof.Rows L2

/-! ## _law_base, _law_amount, _law_root -/
def sp_law_base : FT := fun ws s q _ => ∃ (n b : Nat), ws = [.ref n] ∧ s[n]? = some (.orc (b + 1)) ∧ ∀ v, 2 ≤ v → v ≤ 1000000 → q (.int v) (s.set n (.orc b))
theorem ok_law_base : ∀ ws s q e, sp_law_base ws s q e → fnM 1 (t_law_base sp_law_draw) ws s q e := by
  rintro ws s q e ⟨n, b, rfl, hn, h⟩
  have e6 : (10 : Int) ^ (6 : Int).toNat = 1000000 := by decide
  simp only [↓u_fnM, ↓u_mSeq, ↓u_mIfS, ↓u_mRet, ↓u_mRetN, ↓u_mSet, ↓u_mExpr, ↓u_mVar, ↓u_mK, ↓u_mBin, ↓u_mUn, ↓u_mChain, ↓u_mT, ↓u_mAnd, ↓u_mOr, ↓u_mNot, ↓u_bAnd, ↓u_bOr, ↓u_bNot, ↓u_mIf, ↓u_mFn, ↓u_mTup, ↓u_mLst, ↓u_mNew, ↓u_mCons, ↓u_mNil, ↓u_mCall, ↓u_mNext, ↓u_mAsg, ↓u_mFor, ↓u_mComp, ↓u_mCompN, ↓u_iSeqM, ↓u_mEnum, ↓u_mZip, ↓u_mPar2, ↓u_mPar3, ↓u_mPut, ↓u_mAug, ↓u_mAugS, ↓u_mBM, ↓u_mBM0, ↓u_mCallK, ↓u_mListRg, ↓u_mListRgN, ↓u_mTupRg, ↓u_mRg1, ↓u_mRg2, ↓u_iRngM1, ↓u_iRngM2, ↓u_pAt, ↓u_pNo, ↓u_mIsi, ↓u_mNever, ↓u_gtTp, ↓u_gtCons, ↓u_gtNil, ↓u_gtNm, ↓u_gtSub, ↓u_mBreak, ↓u_mCont, ↓u_mDisp, ↓u_bYes, ↓u_oI, ↓u_oB, ↓u_oIs, ↓u_oEqT, ↓u_seqT, ↓u_seqL, ↓u_seqS, ↓mSl_eq, slW_tup, slW_lst, List.map_cons, List.map_nil, List.length_cons, List.length_nil, List.cons_append, List.nil_append, List.getElem?_cons_zero, List.getElem?_cons_succ, List.set_cons_zero, List.set_cons_succ, List.replicate, Nat.reduceAdd, Nat.reduceSub, Nat.zero_add, if_true, Bool.false_eq_true, if_false, Bool.true_eq_false, reduceIte, t_law_base, oPow]
  refine ⟨⟨by omega, by omega, by decide⟩, by show 8 ≤ sizeLine; decide, ?_⟩
  simp only [e6]
  refine ⟨trivial, n, b, 8, rfl, hn, by omega, by unfold Bd; decide, fun v v0 v1 => ?_⟩
  obtain ⟨j, rfl⟩ : ∃ j : Nat, v = (j : Int) := ⟨v.toNat, by omega⟩
  have e0 : [W.int 2, .int 3, .int 5, .int 10, .int 10, .int 97, .int 1000, .int 1000000] = ([2, 3, 5, 10, 10, 97, 1000, 1000000] : List Int).map W.int := rfl
  rw [e0]
  have hj : j < ([2, 3, 5, 10, 10, 97, 1000, 1000000] : List Int).length := by simp; omega
  refine ix_ints rfl (List.getElem?_eq_getElem hj) ?_
  have hm := List.getElem_mem hj
  generalize ([2, 3, 5, 10, 10, 97, 1000, 1000000] : List Int)[j] = x at hm ⊢
  simp only [List.mem_cons, List.not_mem_nil, or_false] at hm
  refine h x ?_ ?_ <;> omega
def sp_law_amount : FT := fun ws s q _ => ∃ (n b : Nat) (base : Int), ws = [.ref n, .int base] ∧ s[n]? = some (.orc (b + 4)) ∧ 2 ≤ base ∧ base ≤ 1000000 ∧ ∀ v, 0 ≤ v → v ≤ 10000000 → q (.int v) (s.set n (.orc b))
theorem ok_law_amount : ∀ ws s q e, sp_law_amount ws s q e → fnM 3 (t_law_amount sp_law_draw) ws s q e := by
  rintro ws s q e ⟨n, b, base, rfl, hn, b2, b6, h⟩
  have hlt := (List.getElem?_eq_some_iff.mp hn).1
  have e6 : (10 : Int) ^ (6 : Int).toNat = 1000000 := by decide
  have g1 : ∀ {x y : Nat} {t : S}, t.length = s.length → (t.set n (.orc x))[n]? = some (.orc x) := fun {x y t} ht => List.getElem?_set_self (by omega)
  simp only [↓u_fnM, ↓u_mSeq, ↓u_mIfS, ↓u_mRet, ↓u_mRetN, ↓u_mSet, ↓u_mExpr, ↓u_mVar, ↓u_mK, ↓u_mBin, ↓u_mUn, ↓u_mChain, ↓u_mT, ↓u_mAnd, ↓u_mOr, ↓u_mNot, ↓u_bAnd, ↓u_bOr, ↓u_bNot, ↓u_mIf, ↓u_mFn, ↓u_mTup, ↓u_mLst, ↓u_mNew, ↓u_mCons, ↓u_mNil, ↓u_mCall, ↓u_mNext, ↓u_mAsg, ↓u_mFor, ↓u_mComp, ↓u_mCompN, ↓u_iSeqM, ↓u_mEnum, ↓u_mZip, ↓u_mPar2, ↓u_mPar3, ↓u_mPut, ↓u_mAug, ↓u_mAugS, ↓u_mBM, ↓u_mBM0, ↓u_mCallK, ↓u_mListRg, ↓u_mListRgN, ↓u_mTupRg, ↓u_mRg1, ↓u_mRg2, ↓u_iRngM1, ↓u_iRngM2, ↓u_pAt, ↓u_pNo, ↓u_mIsi, ↓u_mNever, ↓u_gtTp, ↓u_gtCons, ↓u_gtNil, ↓u_gtNm, ↓u_gtSub, ↓u_mBreak, ↓u_mCont, ↓u_mDisp, ↓u_bYes, ↓u_oI, ↓u_oB, ↓u_oIs, ↓u_oEqT, ↓u_seqT, ↓u_seqL, ↓u_seqS, ↓mSl_eq, slW_tup, slW_lst, List.map_cons, List.map_nil, List.length_cons, List.length_nil, List.cons_append, List.nil_append, List.getElem?_cons_zero, List.getElem?_cons_succ, List.set_cons_zero, List.set_cons_succ, List.replicate, Nat.reduceAdd, Nat.reduceSub, Nat.zero_add, if_true, Bool.false_eq_true, if_false, Bool.true_eq_false, reduceIte, t_law_amount, oPow, add_int]
  refine ⟨trivial, Bd.cmul (a := 2) (b := 20) (by unfold Bd; decide) (by unfold Bd; omega), trivial, n, b + 3, 2 * base, rfl, hn, by omega, by unfold Bd; omega, fun v1 p1 q1 => ?_⟩
  refine ⟨Bd.cmul (a := 4) (b := 20) (by unfold Bd; decide) (by unfold Bd; omega), trivial, n, b + 2, 9 * base, rfl, by rw [List.getElem?_set_self hlt], by omega, by unfold Bd; omega, fun v2 p2 q2 => ?_⟩
  rw [List.set_set]
  refine ⟨⟨by omega, by omega, by decide⟩, trivial, n, b + 1, 1000000, ?_, by rw [List.getElem?_set_self hlt], by omega, by unfold Bd; decide, fun v3 p3 q3 => ?_⟩
  · simp only [e6]
  rw [List.set_set]
  refine ⟨by show 8 ≤ sizeLine; decide, trivial, n, b, 8, rfl, by rw [List.getElem?_set_self hlt], by omega, by unfold Bd; decide, fun v u0 u1 => ?_⟩
  rw [List.set_set]
  obtain ⟨j, rfl⟩ : ∃ j : Nat, v = (j : Int) := ⟨v.toNat, by omega⟩
  have e0 : [W.int 0, .int 1, .int (base - 1), .int base, .int (base + 1), .int v1, .int v2, .int v3] = ([0, 1, base - 1, base, base + 1, v1, v2, v3] : List Int).map W.int := rfl
  rw [e0]
  have hj : j < ([0, 1, base - 1, base, base + 1, v1, v2, v3] : List Int).length := by simp; omega
  refine ix_ints rfl (List.getElem?_eq_getElem hj) ?_
  have hm := List.getElem_mem hj
  generalize ([0, 1, base - 1, base, base + 1, v1, v2, v3] : List Int)[j] = x at hm ⊢
  simp only [List.mem_cons, List.not_mem_nil, or_false] at hm
  refine h x ?_ ?_ <;> omega
def rootN (T : List Nat) : Nat → Nat → Nat
  | 0, x => x
  | k + 1, x => rootN T k (T[x]?.getD 0)
theorem root_loop {s : S} {c : Cn} {w : W} {T : List Nat} (hw : itemsOf w s = some (nW T)) (hT : ∀ x ∈ T, x < T.length) : ∀ (ks : List Nat) (x : Nat) (x2 : Option W), x < T.length →
    (∀ x2, c.nx [some w, some (.int (rootN T ks.length x : Nat)), x2] s) → forL (.nm 2) t_law_root_b1 [] (nW ks) [some w, some (.int (x : Nat)), x2] s c
  | [], x, x2, _, h => ⟨fun _ h => by simp at h, h x2⟩
  | k :: ks, x, x2, hx, h => by
    refine ⟨fun _ h => by simp at h, ?_⟩
    have ex : T[x]? = some T[x] := List.getElem?_eq_getElem hx
    simp only [asg, List.set_cons_succ, List.set_cons_zero]
    generalize hcc : Cn.mk _ _ _ _ _ = c'
    simp only [↓u_fnM, ↓u_mSeq, ↓u_mIfS, ↓u_mRet, ↓u_mRetN, ↓u_mSet, ↓u_mExpr, ↓u_mVar, ↓u_mK, ↓u_mBin, ↓u_mUn, ↓u_mChain, ↓u_mT, ↓u_mAnd, ↓u_mOr, ↓u_mNot, ↓u_bAnd, ↓u_bOr, ↓u_bNot, ↓u_mIf, ↓u_mFn, ↓u_mTup, ↓u_mLst, ↓u_mNew, ↓u_mCons, ↓u_mNil, ↓u_mCall, ↓u_mNext, ↓u_mAsg, ↓u_mFor, ↓u_mComp, ↓u_mCompN, ↓u_iSeqM, ↓u_mEnum, ↓u_mZip, ↓u_mPar2, ↓u_mPar3, ↓u_mPut, ↓u_mAug, ↓u_mAugS, ↓u_mBM, ↓u_mBM0, ↓u_mCallK, ↓u_mListRg, ↓u_mListRgN, ↓u_mTupRg, ↓u_mRg1, ↓u_mRg2, ↓u_iRngM1, ↓u_iRngM2, ↓u_pAt, ↓u_pNo, ↓u_mIsi, ↓u_mNever, ↓u_gtTp, ↓u_gtCons, ↓u_gtNil, ↓u_gtNm, ↓u_gtSub, ↓u_mBreak, ↓u_mCont, ↓u_mDisp, ↓u_bYes, ↓u_oI, ↓u_oB, ↓u_oIs, ↓u_oEqT, ↓u_seqT, ↓u_seqL, ↓u_seqS, ↓mSl_eq, slW_tup, slW_lst, List.map_cons, List.map_nil, List.length_cons, List.length_nil, List.cons_append, List.nil_append, List.getElem?_cons_zero, List.getElem?_cons_succ, List.set_cons_zero, List.set_cons_succ, List.replicate, Nat.reduceAdd, Nat.reduceSub, Nat.zero_add, if_true, Bool.false_eq_true, if_false, Bool.true_eq_false, reduceIte, t_law_root_b1]
    refine ix_nats hw ex ?_
    subst hcc
    refine root_loop hw hT ks T[x] _ (hT _ (List.getElem_mem hx)) fun x2 => ?_
    have := h x2
    simp only [List.length_cons, rootN, ex, Option.getD_some] at this
    exact this
def sp_law_root : FT := fun ws s q _ => ∃ (w : W) (T : List Nat) (x : Nat), ws = [w, .int (x : Nat)] ∧ itemsOf w s = some (nW T) ∧ T.length ≤ 1000 ∧ (∀ x ∈ T, x < T.length) ∧ x < T.length ∧ q (.int (rootN T T.length x : Nat)) s
theorem ok_law_root : ∀ ws s q e, sp_law_root ws s q e → fnM 3 t_law_root ws s q e := by
  rintro ws s q e ⟨w, T, x, rfl, hw, hl, hT, hx, h⟩
  simp only [↓u_fnM, ↓u_mSeq, ↓u_mIfS, ↓u_mRet, ↓u_mRetN, ↓u_mSet, ↓u_mExpr, ↓u_mVar, ↓u_mK, ↓u_mBin, ↓u_mUn, ↓u_mChain, ↓u_mT, ↓u_mAnd, ↓u_mOr, ↓u_mNot, ↓u_bAnd, ↓u_bOr, ↓u_bNot, ↓u_mIf, ↓u_mFn, ↓u_mTup, ↓u_mLst, ↓u_mNew, ↓u_mCons, ↓u_mNil, ↓u_mCall, ↓u_mNext, ↓u_mAsg, ↓u_mFor, ↓u_mComp, ↓u_mCompN, ↓u_iSeqM, ↓u_mEnum, ↓u_mZip, ↓u_mPar2, ↓u_mPar3, ↓u_mPut, ↓u_mAug, ↓u_mAugS, ↓u_mBM, ↓u_mBM0, ↓u_mCallK, ↓u_mListRg, ↓u_mListRgN, ↓u_mTupRg, ↓u_mRg1, ↓u_mRg2, ↓u_iRngM1, ↓u_iRngM2, ↓u_pAt, ↓u_pNo, ↓u_mIsi, ↓u_mNever, ↓u_gtTp, ↓u_gtCons, ↓u_gtNil, ↓u_gtNm, ↓u_gtSub, ↓u_mBreak, ↓u_mCont, ↓u_mDisp, ↓u_bYes, ↓u_oI, ↓u_oB, ↓u_oIs, ↓u_oEqT, ↓u_seqT, ↓u_seqL, ↓u_seqS, ↓mSl_eq, slW_tup, slW_lst, List.map_cons, List.map_nil, List.length_cons, List.length_nil, List.cons_append, List.nil_append, List.getElem?_cons_zero, List.getElem?_cons_succ, List.set_cons_zero, List.set_cons_succ, List.replicate, Nat.reduceAdd, Nat.reduceSub, Nat.zero_add, if_true, Bool.false_eq_true, if_false, Bool.true_eq_false, reduceIte, t_law_root]
  have e1 : ∀ k : QW, k (.int (T.length : Nat)) s → oLen [w] s k := fun k hk => by
    have : lenOf w s = some T.length := by
      unfold lenOf
      split
      · simp [itemsOf] at hw
      · simp [itemsOf] at hw
      · rw [hw]; simp
    simp only [oLen, this]
    exact hk
  refine e1 _ ⟨⟨by omega, by omega⟩, ?_⟩
  rw [show ((T.length : Nat) : Int).toNat = T.length by omega, rangeW_map]
  refine root_loop hw hT (List.range T.length) x none hx fun x2 => ?_
  rw [List.length_range]
  simp only [↓u_fnM, ↓u_mSeq, ↓u_mIfS, ↓u_mRet, ↓u_mRetN, ↓u_mSet, ↓u_mExpr, ↓u_mVar, ↓u_mK, ↓u_mBin, ↓u_mUn, ↓u_mChain, ↓u_mT, ↓u_mAnd, ↓u_mOr, ↓u_mNot, ↓u_bAnd, ↓u_bOr, ↓u_bNot, ↓u_mIf, ↓u_mFn, ↓u_mTup, ↓u_mLst, ↓u_mNew, ↓u_mCons, ↓u_mNil, ↓u_mCall, ↓u_mNext, ↓u_mAsg, ↓u_mFor, ↓u_mComp, ↓u_mCompN, ↓u_iSeqM, ↓u_mEnum, ↓u_mZip, ↓u_mPar2, ↓u_mPar3, ↓u_mPut, ↓u_mAug, ↓u_mAugS, ↓u_mBM, ↓u_mBM0, ↓u_mCallK, ↓u_mListRg, ↓u_mListRgN, ↓u_mTupRg, ↓u_mRg1, ↓u_mRg2, ↓u_iRngM1, ↓u_iRngM2, ↓u_pAt, ↓u_pNo, ↓u_mIsi, ↓u_mNever, ↓u_gtTp, ↓u_gtCons, ↓u_gtNil, ↓u_gtNm, ↓u_gtSub, ↓u_mBreak, ↓u_mCont, ↓u_mDisp, ↓u_bYes, ↓u_oI, ↓u_oB, ↓u_oIs, ↓u_oEqT, ↓u_seqT, ↓u_seqL, ↓u_seqS, ↓mSl_eq, slW_tup, slW_lst, List.map_cons, List.map_nil, List.length_cons, List.length_nil, List.cons_append, List.nil_append, List.getElem?_cons_zero, List.getElem?_cons_succ, List.set_cons_zero, List.set_cons_succ, List.replicate, Nat.reduceAdd, Nat.reduceSub, Nat.zero_add, if_true, Bool.false_eq_true, if_false, Bool.true_eq_false, reduceIte]
  exact h
end Fw

set_option maxRecDepth 100000
set_option maxHeartbeats 4000000
namespace Fw
open PySem PySem.Spec PyProof.Rows L2

/-! ## tubes -/
structure Tube where
  s : Nat
  t : Nat
  c : Int
def tuI (t : Tube) : List Int := [(t.s : Int), (t.t : Int), t.c]
def tC (t : Tube) : Cell := .lst ((tuI t).map W.int)
def tW (t : Tube) : W := .lst ((tuI t).map W.int)
structure TOk (many : Nat) (B : Int) (u : Tube) : Prop where
  s : u.s < many
  t : u.t < many
  ne : u.s ≠ u.t
  c0 : 0 ≤ u.c
  cB : u.c ≤ B
theorem TOk.mono {many : Nat} {B B' : Int} {t : Tube} (h : TOk many B t) (k : B ≤ B') : TOk many B' t := ⟨h.s, h.t, h.ne, h.c0, Int.le_trans h.cB k⟩
def one (a p : Nat) : Int := if a = p then 1 else 0
/-- what flows into p, less what flows out -/
def fl (ts : List Tube) (p : Nat) : Int := (ts.map fun t => t.c * (one t.t p - one t.s p)).sum
def flA (as : List (Nat × Nat)) (p : Nat) : Int := (as.map fun a => one a.2 p - one a.1 p).sum
theorem fl_app (ts us : List Tube) (p : Nat) : fl (ts ++ us) p = fl ts p + fl us p := by simp [fl]
theorem sum_set : ∀ (xs : List Int) (i : Nat) (x y : Int), xs[i]? = some x → (xs.set i y).sum = xs.sum + (y - x)
  | [], i, x, y, h => by simp at h
  | a :: xs, 0, x, y, h => by simp at h; subst h; simp; omega
  | a :: xs, i + 1, x, y, h => by
    have := sum_set xs i x y (by simpa using h)
    simp [this]; omega
theorem fl_set {ts : List Tube} {i : Nat} {t : Tube} (h : ts[i]? = some t) (a : Int) (p : Nat) : fl (ts.set i { t with c := t.c + a }) p = fl ts p + a * (one t.t p - one t.s p) := by
  unfold fl
  rw [List.map_set, sum_set _ i (t.c * (one t.t p - one t.s p)) _ (by simp [h])]
  dsimp only
  rw [Int.add_mul]
  omega
/-- one more arc with the amount a -/
inductive Add1 (ts : List Tube) (x : Nat × Nat) (a : Int) : List Tube → Prop where
  | new : Add1 ts x a (ts ++ [⟨x.1, x.2, a⟩])
  | old {i : Nat} {t : Tube} (h : ts[i]? = some t) (h1 : t.s = x.1) (h2 : t.t = x.2) : Add1 ts x a (ts.set i { t with c := t.c + a })
theorem Add1.fl {ts us : List Tube} {x : Nat × Nat} {a : Int} (h : Add1 ts x a us) (p : Nat) : fl us p = fl ts p + a * (one x.2 p - one x.1 p) := by
  cases h with
  | new => rw [fl_app]; simp [Fw.fl]
  | old h h1 h2 => rw [fl_set h, h1, h2]
theorem Add1.len {ts us : List Tube} {x : Nat × Nat} {a : Int} (h : Add1 ts x a us) : us.length ≤ ts.length + 1 ∧ ts.length ≤ us.length := by
  cases h with
  | new => simp
  | old h h1 h2 => simp
theorem Add1.ok {many : Nat} {B : Int} {ts us : List Tube} {x : Nat × Nat} {a : Int} (h : Add1 ts x a us) (ht : ∀ t ∈ ts, TOk many B t) (hB : 0 ≤ B) (h1 : x.1 < many) (h2 : x.2 < many) (hne : x.1 ≠ x.2) (a0 : 0 ≤ a) (a1 : a ≤ 10000000) :
    ∀ t ∈ us, TOk many (B + 10000000) t := by
  intro t hm
  cases h with
  | new =>
    rcases List.mem_append.mp hm with hm | hm
    · exact (ht t hm).mono (by omega)
    · simp at hm; subst hm; exact ⟨h1, h2, hne, a0, by show a ≤ _; omega⟩
  | old h e1 e2 =>
    rename_i i t0
    rcases List.mem_or_eq_of_mem_set hm with hm | rfl
    · exact (ht t hm).mono (by omega)
    · have := ht t0 (List.mem_of_getElem? h)
      exact ⟨this.s, this.t, this.ne, by show 0 ≤ t0.c + a; have := this.c0; omega, by show t0.c + a ≤ _; have := this.cB; omega⟩
/-! ## the heap of tubes -/
def rfs (L k : Nat) : List W := (List.range k).map fun i => W.ref (L + (1 + i))
def tJ (L : Nat) (ts : List Tube) (fz : List Tube) : S := .lst (rfs L ts.length ++ fz.map tW) :: ts.map tC
theorem tJ_at {L : Nat} {ts fz : List Tube} {i : Nat} {t : Tube} (h : ts[i]? = some t) : (tJ L ts fz)[1 + i]? = some (.lst ((tuI t).map W.int)) := by
  unfold tJ
  rw [show 1 + i = i + 1 by omega, List.getElem?_cons_succ, List.getElem?_map, h]; rfl
theorem rfs_succ (L k : Nat) : rfs L (k + 1) = rfs L k ++ [.ref (L + (1 + k))] := by
  simp [rfs, List.range_succ]
theorem dats_refs {A : S} {L : Nat} {ts fz : List Tube} (hL : A.length = L) : ∀ (is : List Nat), (∀ i ∈ is, i < ts.length) → ∃ ds, dats (cellD (A ++ tJ L ts fz) 3) (is.map fun i => W.ref (L + (1 + i))) = some ds ∧ ds.length = is.length ∧ SeqAt.shaped (.list ds) = true
  | [], _ => ⟨[], rfl, rfl, rfl⟩
  | i :: is, h => by
    obtain ⟨ds, h1, h2, h3⟩ := dats_refs hL is fun j hj => h j (by simp [hj])
    have hi := h i (by simp)
    have ht : ts[i]? = some ts[i] := List.getElem?_eq_getElem hi
    have hc : (A ++ tJ L ts fz)[L + (1 + i)]? = some (.lst ((tuI ts[i]).map W.int)) := by
      have := cell_at (s := A) (tJ_at (L := L) (fz := fz) ht)
      rw [hL] at this; exact this
    have hd : dat (cellD (A ++ tJ L ts fz) 3) (.ref (L + (1 + i))) = some (.list ((tuI ts[i]).map PyData.int)) := by
      show cellD _ 3 (L + (1 + i)) = _
      simp only [cellD, hc, dats_ints]
      rfl
    refine ⟨.list ((tuI ts[i]).map PyData.int) :: ds, ?_, by simp [h2], ?_⟩
    · show (match dat _ _, dats _ _ with
        | some d, some ds => some (d :: ds)
        | _, _ => none) = _
      rw [hd, h1]
    · unfold SeqAt.shaped at h3 ⊢
      rw [Bool.and_eq_true] at h3 ⊢
      obtain ⟨h4, h5⟩ := h3
      have h6 := depthAll_ints (tuI ts[i])
      refine ⟨?_, decide_eq_true ?_⟩
      · simp only [PyData.canLay0, PyData.canLayAll0, layAll_ints, Bool.true_and] at h4 ⊢; exact h4
      · have h5' := of_decide_eq_true h5
        simp only [PyData.depth, PyData.depthAll] at h5' ⊢
        omega
theorem eq_lst_nil {xs : List W} {ds : List PyData} {s : S} {q : QW} {neg : Bool} (hd : dats (cellD s 3) xs = some ds) (hs : SeqAt.shaped (.list ds) = true) (k : q (.bl (neg != decide (xs = []))) s) : oEq neg (.lst xs) (.lst []) s q := by
  have hl : decide (xs = []) = decide (ds = []) := by
    cases xs with
    | nil => simp [dats] at hd; subst hd; rfl
    | cons x xs =>
      simp only [dats] at hd
      split at hd
      · cases hd; rfl
      · cases hd
  have h1 : datS s (.lst xs) = some (.list ds) := by
    show (dats _ xs).map PyData.list = _
    rw [hd]; rfl
  have h2 : datS s (.lst []) = some (.list []) := rfl
  have h3 : PyData.eqv (.list ds) (.list []) = decide (ds = []) := by cases ds <;> simp [PyData.eqv, PyData.eqvAll]
  have h4 : SeqAt.shaped (.list []) = true := rfl
  unfold oEq
  rw [h1, h2]
  rw [hl] at k
  simp only [hs, h3, h4, Bool.and_self, true_and]
  exact k
theorem eqvAll_ints : ∀ xs ys : List Int, PyData.eqvAll (xs.map PyData.int) (ys.map PyData.int) = decide (xs = ys)
  | [], [] => by simp [PyData.eqvAll]
  | [], y :: ys => by simp [PyData.eqvAll]
  | x :: xs, [] => by simp [PyData.eqvAll]
  | x :: xs, y :: ys => by
    simp only [List.map_cons, PyData.eqvAll, eqv_int, eqvAll_ints xs ys]
    rw [Bool.eq_iff_iff]; simp
theorem eq_ints {xs ys : List Int} {s : S} {q : QW} {neg : Bool} (k : q (.bl (neg != decide (xs = ys))) s) : oEq neg (.lst (xs.map W.int)) (.lst (ys.map W.int)) s q := by
  have h1 : ∀ xs : List Int, datS s (.lst (xs.map W.int)) = some (.list (xs.map PyData.int)) := fun xs => by
    show (dats _ (xs.map W.int)).map PyData.list = _
    rw [dats_ints]; rfl
  unfold oEq
  rw [h1, h1]
  have h3 : PyData.eqv (.list (xs.map PyData.int)) (.list (ys.map PyData.int)) = decide (xs = ys) := by
    show PyData.eqvAll _ _ = _
    exact eqvAll_ints xs ys
  simp only [shaped_list_ints, h3, Bool.and_self, true_and]
  exact k
end Fw

set_option maxRecDepth 100000
set_option maxHeartbeats 4000000
namespace Fw
open PySem PySem.Spec PyProof.Rows L2

/-! ## the arcs of one ring -/
def arcW (a : Nat × Nat) : W := .tup [.int (a.1 : Int), .int (a.2 : Int)]
def fits (ts : List Tube) (a : Nat × Nat) (i : Nat) : Bool := match ts[i]? with
  | some t => decide (t.s = a.1 ∧ t.t = a.2)
  | none => false
theorem lstOf_ref {A : S} {L : Nat} {ts fz : List Tube} {i : Nat} {t : Tube} (hL : A.length = L) (h : ts[i]? = some t) : lstOf (.ref (L + (1 + i))) (A ++ tJ L ts fz) = some ((tuI t).map W.int) := lstOf_at hL (tJ_at h)
theorem tJ_set {L : Nat} {ts fz : List Tube} {i : Nat} {t : Tube} (hi : i < ts.length) : (tJ L ts fz).set (1 + i) (.lst ((tuI t).map W.int)) = tJ L (ts.set i t) fz := by
  unfold tJ
  rw [show 1 + i = i + 1 by omega, List.set_cons_succ, List.length_set, List.map_set]
  rfl
theorem tJ_new {L : Nat} {ts : List Tube} {t : Tube} : (tJ L ts [] ++ [Cell.lst ((tuI t).map W.int)]).set 0 (.lst (rfs L ts.length ++ [.ref (L + (1 + ts.length))])) = tJ L (ts ++ [t]) [] := by
  unfold tJ
  simp only [List.map_nil, List.append_nil, List.cons_append, List.set_cons_zero, List.length_append, List.length_cons, List.length_nil, Nat.zero_add, rfs_succ, List.map_append, List.map_cons]
  rfl
theorem ix_zero {x : W} {xs : List W} {s : S} {q : QW} (p : q x s) : oIx (.lst (x :: xs)) (.int 0) s q := by
  unfold oIx
  have : atI (x :: xs) 0 = some x := atI_nat (j := 0) rfl
  simp only [itemsOf, this]
  exact p
theorem slW_ref {k : Nat} {xs : List W} {s : S} {a b : Option Int} {q : QW} (h : lstOf (.ref k) s = some xs) (p : q (.lst (cutW xs a b)) s) : slW (.ref k) a b s q := by
  unfold slW
  simp only [h]
  exact p
theorem arc_loop {s : S} {n many : Nat} {c : Cn} {x1 x2 x3 x4 x6 x7 x13 : Option W} {amt : Int} (hn : n < s.length) (a0 : 0 ≤ amt) (a1 : amt ≤ 10000000) : ∀ (as : List (Nat × Nat)) (ts : List Tube) (B : Int) (b : Nat) (x9 x10 x11 x12 : Option W),
    (∀ a ∈ as, a.1 < many ∧ a.2 < many ∧ a.1 ≠ a.2) → (∀ t ∈ ts, TOk many B t) → 0 ≤ B → as.length ≤ b → ts.length + as.length ≤ 500 →
    (∀ ts' b' x9 x10 x11 x12, (∀ t ∈ ts', TOk many (B + 10000000 * as.length) t) → (∀ p, fl ts' p = fl ts p + amt * flA as p) → ts'.length ≤ ts.length + as.length → b ≤ b' + as.length → b' ≤ b →
      c.nx [some (.ref n), x1, x2, x3, x4, some (.ref (s.length + 0)), x6, x7, some (.int amt), x9, x10, x11, x12, x13] (s.set n (.orc b') ++ tJ s.length ts' [])) →
    forL (.tp [.nm 9, .nm 10]) (t_law_tubes_b1 sp_law_mixed_up sp_law_draw sp_law_amount) [] (as.map arcW) [some (.ref n), x1, x2, x3, x4, some (.ref (s.length + 0)), x6, x7, some (.int amt), x9, x10, x11, x12, x13] (s.set n (.orc b) ++ tJ s.length ts []) c
  | [], ts, B, b, x9, x10, x11, x12, _, ht, _, _, _, h => ⟨fun _ h => by simp at h, h ts b x9 x10 x11 x12 (by simpa using ht) (by simp [flA]) (by simp) (by simp) (Nat.le_refl _)⟩
  | a :: as, ts, B, b, x9, x10, x11, x12, ha, ht, hB, hb, hl, h => by
    refine ⟨fun _ h => by simp at h, ?_⟩
    obtain ⟨h1, h2, h3⟩ := ha a (by simp)
    have hb' : as.length + 1 ≤ b := by simpa using hb
    have hl' : ts.length + (as.length + 1) ≤ 500 := by simpa using hl
    have hA : (s.set n (.orc b)).length = s.length := by simp
    have hgo : ∀ us b1 x9 x10 x11 x12, Add1 ts a amt us → b ≤ b1 + 1 → b1 ≤ b → forL (.tp [.nm 9, .nm 10]) (t_law_tubes_b1 sp_law_mixed_up sp_law_draw sp_law_amount) [] (as.map arcW) [some (.ref n), x1, x2, x3, x4, some (.ref (s.length + 0)), x6, x7, some (.int amt), x9, x10, x11, x12, x13] (s.set n (.orc b1) ++ tJ s.length us []) c := by
      intro us b1 x9 x10 x11 x12 hadd e1 e2
      have hlen := hadd.len
      refine arc_loop hn a0 a1 as us (B + 10000000) b1 x9 x10 x11 x12 (fun z hz => ha z (by simp [hz])) (hadd.ok ht hB h1 h2 h3 a0 a1) (by omega) (by omega) (by omega) fun ts' b' x9 x10 x11 x12 g1 g2 g3 g4 g5 => ?_
      refine h ts' b' x9 x10 x11 x12 (fun t hm => (g1 t hm).mono (by simp; omega)) (fun p => ?_) (by simp; omega) (by simp; omega) (by omega)
      rw [g2, hadd.fl]
      simp only [flA, List.map_cons, List.sum_cons, Int.mul_add]
      omega
    simp only [arcW, asg, asgs, itemsOf, List.length_cons, List.length_nil, if_true, List.set_cons_succ, List.set_cons_zero]
    generalize hcc : Cn.mk _ _ _ _ _ = c'
    have hfound : (s.set n (.orc b) ++ tJ s.length ts [])[s.length + 0]? = some (.lst (rfs s.length ts.length)) := by
      have := cell_at (s := s.set n (.orc b)) (J := tJ s.length ts []) (i := 0) (c := .lst (rfs s.length ts.length)) (by simp [tJ])
      rw [hA] at this; exact this
    simp only [↓u_fnM, ↓u_mSeq, ↓u_mIfS, ↓u_mRet, ↓u_mRetN, ↓u_mSet, ↓u_mExpr, ↓u_mVar, ↓u_mK, ↓u_mBin, ↓u_mUn, ↓u_mChain, ↓u_mT, ↓u_mAnd, ↓u_mOr, ↓u_mNot, ↓u_bAnd, ↓u_bOr, ↓u_bNot, ↓u_mIf, ↓u_mFn, ↓u_mTup, ↓u_mLst, ↓u_mNew, ↓u_mCons, ↓u_mNil, ↓u_mCall, ↓u_mNext, ↓u_mAsg, ↓u_mFor, ↓u_mComp, ↓u_mCompN, ↓u_iSeqM, ↓u_mEnum, ↓u_mZip, ↓u_mPar2, ↓u_mPar3, ↓u_mPut, ↓u_mAug, ↓u_mAugS, ↓u_mBM, ↓u_mBM0, ↓u_mCallK, ↓u_mListRg, ↓u_mListRgN, ↓u_mTupRg, ↓u_mRg1, ↓u_mRg2, ↓u_iRngM1, ↓u_iRngM2, ↓u_pAt, ↓u_pNo, ↓u_mIsi, ↓u_mNever, ↓u_gtTp, ↓u_gtCons, ↓u_gtNil, ↓u_gtNm, ↓u_gtSub, ↓u_mBreak, ↓u_mCont, ↓u_mDisp, ↓u_bYes, ↓u_oI, ↓u_oB, ↓u_oIs, ↓u_oEqT, ↓u_seqT, ↓u_seqL, ↓u_seqS, ↓mSl_eq, slW_tup, slW_lst, List.map_cons, List.map_nil, List.length_cons, List.length_nil, List.cons_append, List.nil_append, List.getElem?_cons_zero, List.getElem?_cons_succ, List.set_cons_zero, List.set_cons_succ, List.replicate, Nat.reduceAdd, Nat.reduceSub, Nat.zero_add, if_true, Bool.false_eq_true, if_false, Bool.true_eq_false, reduceIte, t_law_tubes_b1]
    rw [u_seqR hfound]
    -- same
    refine compL_map (fun i => W.ref (s.length + (1 + i))) (fun i => if fits ts a i then some (.ref (s.length + (1 + i))) else none) (List.range ts.length) [] (fun i hi => ?_) (by simp; exact leW _ (by omega)) (fun p hp => by simp at hp; subst hp; exact hfound) ?_
    · have hi' := List.mem_range.mp hi
      have ht' : ts[i]? = some ts[i] := List.getElem?_eq_getElem hi'
      refine ⟨_, rfl, fun k e hk => ?_, fun y hy k e hk => ?_⟩
      · simp only [↓u_fnM, ↓u_mSeq, ↓u_mIfS, ↓u_mRet, ↓u_mRetN, ↓u_mSet, ↓u_mExpr, ↓u_mVar, ↓u_mK, ↓u_mBin, ↓u_mUn, ↓u_mChain, ↓u_mT, ↓u_mAnd, ↓u_mOr, ↓u_mNot, ↓u_bAnd, ↓u_bOr, ↓u_bNot, ↓u_mIf, ↓u_mFn, ↓u_mTup, ↓u_mLst, ↓u_mNew, ↓u_mCons, ↓u_mNil, ↓u_mCall, ↓u_mNext, ↓u_mAsg, ↓u_mFor, ↓u_mComp, ↓u_mCompN, ↓u_iSeqM, ↓u_mEnum, ↓u_mZip, ↓u_mPar2, ↓u_mPar3, ↓u_mPut, ↓u_mAug, ↓u_mAugS, ↓u_mBM, ↓u_mBM0, ↓u_mCallK, ↓u_mListRg, ↓u_mListRgN, ↓u_mTupRg, ↓u_mRg1, ↓u_mRg2, ↓u_iRngM1, ↓u_iRngM2, ↓u_pAt, ↓u_pNo, ↓u_mIsi, ↓u_mNever, ↓u_gtTp, ↓u_gtCons, ↓u_gtNil, ↓u_gtNm, ↓u_gtSub, ↓u_mBreak, ↓u_mCont, ↓u_mDisp, ↓u_bYes, ↓u_oI, ↓u_oB, ↓u_oIs, ↓u_oEqT, ↓u_seqT, ↓u_seqL, ↓u_seqS, ↓mSl_eq, slW_tup, slW_lst, List.map_cons, List.map_nil, List.length_cons, List.length_nil, List.cons_append, List.nil_append, List.getElem?_cons_zero, List.getElem?_cons_succ, List.set_cons_zero, List.set_cons_succ, List.replicate, Nat.reduceAdd, Nat.reduceSub, Nat.zero_add, if_true, Bool.false_eq_true, if_false, Bool.true_eq_false, reduceIte, wipeL]
        have hsl : ∀ q : QW, q (.lst (([(ts[i].s : Int), (ts[i].t : Int)] : List Int).map W.int)) (s.set n (.orc b) ++ tJ s.length ts []) → slW (.ref (s.length + (1 + i))) none (some 2) (s.set n (.orc b) ++ tJ s.length ts []) q := fun q hq => by
          refine slW_ref (lstOf_ref hA ht') ?_
          have : cutW ((tuI ts[i]).map W.int) none (some 2) = ([(ts[i].s : Int), (ts[i].t : Int)] : List Int).map W.int := cut_to (i := 2) (by simp [tuI])
          rw [this]
          exact hq
        refine hsl _ ⟨by show 2 ≤ sizeLine; decide, ?_⟩
        refine eq_ints (ys := [(a.1 : Int), (a.2 : Int)]) ?_
        have : decide ([(ts[i].s : Int), (ts[i].t : Int)] = [(a.1 : Int), (a.2 : Int)]) = fits ts a i := by
          unfold fits
          rw [ht', Bool.eq_iff_iff]
          simp
          omega
        rw [this]
        cases hf : fits ts a i <;> simpa [hf] using hk
      · simp only [↓u_fnM, ↓u_mSeq, ↓u_mIfS, ↓u_mRet, ↓u_mRetN, ↓u_mSet, ↓u_mExpr, ↓u_mVar, ↓u_mK, ↓u_mBin, ↓u_mUn, ↓u_mChain, ↓u_mT, ↓u_mAnd, ↓u_mOr, ↓u_mNot, ↓u_bAnd, ↓u_bOr, ↓u_bNot, ↓u_mIf, ↓u_mFn, ↓u_mTup, ↓u_mLst, ↓u_mNew, ↓u_mCons, ↓u_mNil, ↓u_mCall, ↓u_mNext, ↓u_mAsg, ↓u_mFor, ↓u_mComp, ↓u_mCompN, ↓u_iSeqM, ↓u_mEnum, ↓u_mZip, ↓u_mPar2, ↓u_mPar3, ↓u_mPut, ↓u_mAug, ↓u_mAugS, ↓u_mBM, ↓u_mBM0, ↓u_mCallK, ↓u_mListRg, ↓u_mListRgN, ↓u_mTupRg, ↓u_mRg1, ↓u_mRg2, ↓u_iRngM1, ↓u_iRngM2, ↓u_pAt, ↓u_pNo, ↓u_mIsi, ↓u_mNever, ↓u_gtTp, ↓u_gtCons, ↓u_gtNil, ↓u_gtNm, ↓u_gtSub, ↓u_mBreak, ↓u_mCont, ↓u_mDisp, ↓u_bYes, ↓u_oI, ↓u_oB, ↓u_oIs, ↓u_oEqT, ↓u_seqT, ↓u_seqL, ↓u_seqS, ↓mSl_eq, slW_tup, slW_lst, List.map_cons, List.map_nil, List.length_cons, List.length_nil, List.cons_append, List.nil_append, List.getElem?_cons_zero, List.getElem?_cons_succ, List.set_cons_zero, List.set_cons_succ, List.replicate, Nat.reduceAdd, Nat.reduceSub, Nat.zero_add, if_true, Bool.false_eq_true, if_false, Bool.true_eq_false, reduceIte, wipeL]
        cases hf : fits ts a i <;> simp [hf] at hy
        subst hy; exact hk
    · rw [filterMap_if (fits ts a) (fun i => W.ref (s.length + (1 + i))), List.nil_append]
      obtain ⟨ds, d1, d2, d3⟩ := dats_refs (fz := []) hA ((List.range ts.length).filter (fits ts a)) fun i hi => List.mem_range.mp (List.mem_filter.mp hi).1
      refine ⟨by show 0 ≤ sizeLine; omega, eq_lst_nil d1 d3 ?_⟩
      -- a new tube
      have hnew : ∀ b1 x9 x10 x11 x12, b ≤ b1 + 1 → b1 ≤ b → 3 ≤ sizeLine ∧ oAppend (.ref (s.length + 0)) [.ref (s.set n (.orc b1) ++ tJ s.length ts []).length] (s.set n (.orc b1) ++ tJ s.length ts [] ++ [.lst [.int (a.1 : Int), .int (a.2 : Int), .int amt]]) (fun _ s' => forL (.tp [.nm 9, .nm 10]) (t_law_tubes_b1 sp_law_mixed_up sp_law_draw sp_law_amount) [] (as.map arcW) [some (.ref n), x1, x2, x3, x4, some (.ref (s.length + 0)), x6, x7, some (.int amt), x9, x10, x11, x12, x13] s' c) := by
        intro b1 x9 x10 x11 x12 e1 e2
        refine ⟨by decide, ?_⟩
        have el : (s.set n (.orc b1) ++ tJ s.length ts []).length = s.length + (1 + ts.length) := by simp [tJ]; omega
        rw [el, List.append_assoc]
        refine append_at (i := 0) (xs := rfs s.length ts.length) (by simp) (by simp [tJ]) (by simp [rfs, sizeLine_eq]; omega) ?_
        have := hgo _ b1 x9 x10 x11 x12 (Add1.new (ts := ts) (x := a) (a := amt)) e1 e2
        rw [← tJ_new] at this
        exact this
      by_cases hz : (List.range ts.length).filter (fits ts a) = []
      · simp only [hz, List.map_nil, decide_true, bne_self_eq_false, Bool.false_eq_true, if_false]
        refine ⟨isLst_at (i := 0) (xs := rfs s.length ts.length) hA (by simp [tJ]), ?_⟩
        obtain ⟨z1, z2⟩ := hnew b (some (.int (a.1 : Int))) (some (.int (a.2 : Int))) (some (.lst [])) x12 (by omega) (Nat.le_refl _)
        refine ⟨z1, ?_⟩
        subst hcc
        exact z2
      · obtain ⟨i, is, hi⟩ := List.exists_cons_of_ne_nil hz
        have hmem : i ∈ (List.range ts.length).filter (fits ts a) := by rw [hi]; simp
        obtain ⟨hm1, hm2⟩ := List.mem_filter.mp hmem
        have hil := List.mem_range.mp hm1
        have ht' : ts[i]? = some ts[i] := List.getElem?_eq_getElem hil
        have hne : decide (((List.range ts.length).filter (fits ts a)).map (fun i => W.ref (s.length + (1 + i))) = []) = false := by rw [hi]; rfl
        simp only [hne]
        simp only [Bool.true_bne, Bool.not_false, if_true]
        refine ⟨trivial, n, b - 1, 3, rfl, by rw [orc_get hn]; congr 2; omega, by omega, by unfold Bd; decide, fun v v0 v1 => ?_⟩
        rw [orc_set hn]
        have hA1 : (s.set n (.orc (b - 1))).length = s.length := by simp
        simp only [u_oB]
        by_cases hv : 0 < v
        · simp only [hv, decide_true, if_true]
          rw [hi]
          have i0 : ∀ (st : S) (q : QW), q (.ref (s.length + (1 + i))) st → oIx (.lst ((i :: is).map fun i => W.ref (s.length + (1 + i)))) (.int 0) st q := fun st q hq => ix_zero hq
          have hit := itemsOf_at (A := s.set n (.orc (b - 1))) hA1 (tJ_at (L := s.length) (fz := []) ht')
          refine i0 _ _ (ix_ints (i := 2) hit (show (tuI ts[i])[2]? = some ts[i].c from rfl) ?_)
          simp only [add_int]
          refine i0 _ _ ?_
          have hcl := cellL_at (A := s.set n (.orc (b - 1))) hA1 (tJ_at (L := s.length) (fz := []) ht')
          unfold oPut
          rw [hcl]
          show (fun s4 => c'.nx _ s4) _
          have hset : (s.set n (.orc (b - 1)) ++ tJ s.length ts []).set (s.length + (1 + i)) (.lst (((tuI ts[i]).map W.int).set 2 (.int (ts[i].c + amt)))) = s.set n (.orc (b - 1)) ++ tJ s.length (ts.set i { ts[i] with c := ts[i].c + amt }) [] := by
            have e1 := cell_set (s := s.set n (.orc (b - 1))) (J := tJ s.length ts []) (i := 1 + i) (c := .lst (((tuI ts[i]).map W.int).set 2 (.int (ts[i].c + amt))))
            rw [hA1] at e1
            rw [e1, ← tJ_set hil]
            rfl
          have hfit : ts[i].s = a.1 ∧ ts[i].t = a.2 := by
            unfold fits at hm2
            rw [ht'] at hm2
            simpa using hm2
          have := hgo _ (b - 1) (some (.int (a.1 : Int))) (some (.int (a.2 : Int))) (some (.lst ((i :: is).map fun i => W.ref (s.length + (1 + i))))) x12 (Add1.old (a := amt) ht' hfit.1 hfit.2) (by omega) (by omega)
          rw [← hset] at this
          subst hcc
          exact this
        · simp only [hv, decide_false, Bool.false_eq_true, if_false]
          refine ⟨isLst_at (i := 0) (xs := rfs s.length ts.length) hA1 (by simp [tJ]), ?_⟩
          obtain ⟨z1, z2⟩ := hnew (b - 1) (some (.int (a.1 : Int))) (some (.int (a.2 : Int))) (some (.lst (((List.range ts.length).filter (fits ts a)).map (fun i => W.ref (s.length + (1 + i)))))) x12 (by omega) (by omega)
          refine ⟨z1, ?_⟩
          subst hcc
          exact z2
end Fw

set_option maxRecDepth 100000
set_option maxHeartbeats 4000000
namespace Fw
open PySem PySem.Spec PyProof.Rows L2

/-! ## sums over places -/
def sm (f : Nat → Int) : Nat → Int
  | 0 => 0
  | n + 1 => sm f n + f n
theorem sm_congr {f g : Nat → Int} : ∀ (n : Nat), (∀ x, x < n → f x = g x) → sm f n = sm g n
  | 0, _ => rfl
  | n + 1, h => by
    show sm f n + f n = sm g n + g n
    rw [sm_congr n fun x hx => h x (by omega), h n (by omega)]
theorem sm_add (f g : Nat → Int) : ∀ n, sm (fun x => f x + g x) n = sm f n + sm g n
  | 0 => rfl
  | n + 1 => by
    show sm _ n + (f n + g n) = (sm f n + f n) + (sm g n + g n)
    rw [sm_add f g n]; omega
theorem sm_mul (c : Int) (f : Nat → Int) : ∀ n, sm (fun x => c * f x) n = c * sm f n
  | 0 => by simp [sm]
  | n + 1 => by
    show sm _ n + c * f n = c * (sm f n + f n)
    rw [sm_mul c f n, Int.mul_add]
theorem sm_zero (n : Nat) : sm (fun _ => 0) n = 0 := by
  induction n with
  | zero => rfl
  | succ n ih => show sm _ n + 0 = 0; rw [ih]; rfl
theorem sm_one {a : Nat} (c : Int) : ∀ n, a < n → sm (fun x => if x = a then c else 0) n = c
  | n + 1, h => by
    show sm _ n + (if n = a then c else 0) = c
    by_cases e : n = a
    · subst e
      rw [if_pos rfl, sm_congr (g := fun _ => 0) n fun x hx => if_neg (by omega), sm_zero]; omega
    · rw [if_neg e, sm_one c n (by omega)]; omega

/-! ## labels -/
def lb (L : List Nat) (x : Nat) : Nat := L[x]?.getD 0
theorem step_some {L M : List Nat} {p : Pipe} (h : treesStep L p = some M) :
    p.s < L.length ∧ p.t < L.length ∧ lb L p.s ≠ lb L p.t ∧ M.length = L.length ∧
    ∀ x, x < L.length → lb M x = if lb L x = lb L p.s ∨ lb L x = lb L p.t then min (lb L p.s) (lb L p.t) else lb L x := by
  unfold treesStep at h
  split at h
  · rename_i a b ha hb
    have hs := (List.getElem?_eq_some_iff.mp ha).1
    have ht := (List.getElem?_eq_some_iff.mp hb).1
    have la : lb L p.s = a := by unfold lb; rw [ha]; rfl
    have lb' : lb L p.t = b := by unfold lb; rw [hb]; rfl
    split at h
    · cases h
    · rename_i hne
      cases h
      refine ⟨hs, ht, by rw [la, lb']; exact hne, by simp, fun x hx => ?_⟩
      have : lb L x = L[x] := by unfold lb; rw [List.getElem?_eq_getElem hx]; rfl
      rw [la, lb', this]
      unfold lb
      rw [List.getElem?_map, List.getElem?_eq_getElem hx]; rfl
  · cases h
theorem step_none {L : List Nat} {p : Pipe} (hs : p.s < L.length) (ht : p.t < L.length) (h : treesStep L p = none) : lb L p.s = lb L p.t := by
  unfold treesStep at h
  rw [List.getElem?_eq_getElem hs, List.getElem?_eq_getElem ht] at h
  simp only at h
  split at h
  · rename_i e
    unfold lb
    rw [List.getElem?_eq_getElem hs, List.getElem?_eq_getElem ht, e]
  · cases h
/-- a set that no pipe crosses -/
def Shut (ps : List Pipe) (T : Nat → Prop) : Prop := ∀ p ∈ ps, T p.s ↔ T p.t
/-- what is known of the labels of some pipes -/
structure Lab (n : Nat) (ps : List Pipe) (L : List Nat) : Prop where
  len : L.length = n
  same : ∀ p ∈ ps, lb L p.s = lb L p.t
  conn : ∀ x y, x < n → y < n → lb L x = lb L y → ∀ T, Shut ps T → (T x ↔ T y)
theorem Lab.nil (n : Nat) : Lab n [] (List.range n) := by
  refine ⟨by simp, by simp, fun x y hx hy h T _ => ?_⟩
  unfold lb at h
  rw [List.getElem?_range hx, List.getElem?_range hy] at h
  simp at h
  rw [h]
theorem Lab.snoc {n : Nat} {ps : List Pipe} {L M : List Nat} {p : Pipe} (h : Lab n ps L) (hp : ∀ q ∈ ps, q.s < n ∧ q.t < n) (e : treesStep L p = some M) : Lab n (ps ++ [p]) M := by
  obtain ⟨hs, ht, hne, hl, hM⟩ := step_some e
  rw [h.len] at hs ht hM
  refine ⟨by rw [hl, h.len], fun q hq => ?_, fun x y hx hy hxy T hT => ?_⟩
  · rcases List.mem_append.mp hq with hq | hq
    · obtain ⟨q1, q2⟩ := hp q hq
      rw [hM _ q1, hM _ q2, h.same q hq]
    · simp at hq; subst hq
      rw [hM _ hs, hM _ ht]; simp
  · have hT1 : Shut ps T := fun q hq => hT q (List.mem_append_left _ hq)
    have hT2 : T p.s ↔ T p.t := hT p (by simp)
    rw [hM x hx, hM y hy] at hxy
    have key : ∀ z, z < n → (lb L z = lb L p.s ∨ lb L z = lb L p.t) → (T z ↔ T p.s) := by
      rintro z hz (hz1 | hz1)
      · exact h.conn z _ hz hs hz1 T hT1
      · exact (h.conn z _ hz ht hz1 T hT1).trans hT2.symm
    by_cases cx : lb L x = lb L p.s ∨ lb L x = lb L p.t
    · by_cases cy : lb L y = lb L p.s ∨ lb L y = lb L p.t
      · exact (key x hx cx).trans (key y hy cy).symm
      · rw [if_pos cx, if_neg cy] at hxy
        exfalso; apply cy
        rw [← hxy]
        omega
    · by_cases cy : lb L y = lb L p.s ∨ lb L y = lb L p.t
      · rw [if_neg cx, if_pos cy] at hxy
        exfalso; apply cx
        rw [hxy]
        omega
      · rw [if_neg cx, if_neg cy] at hxy
        exact h.conn x y hx hy hxy T hT1
theorem foldM_cons {p : Pipe} {ps : List Pipe} {L F : List Nat} (h : (p :: ps).foldlM treesStep L = some F) : ∃ M, treesStep L p = some M ∧ ps.foldlM treesStep M = some F := by
  rw [List.foldlM_cons] at h
  exact Option.bind_eq_some_iff.mp h
theorem Lab.fold {n : Nat} : ∀ (qs ps : List Pipe) (L F : List Nat), Lab n ps L → (∀ q ∈ ps ++ qs, q.s < n ∧ q.t < n) → qs.foldlM treesStep L = some F → Lab n (ps ++ qs) F
  | [], ps, L, F, h, _, e => by simp at e; subst e; simpa using h
  | q :: qs, ps, L, F, h, hp, e => by
    obtain ⟨M, e1, e2⟩ := foldM_cons e
    have := Lab.fold qs (ps ++ [q]) M F (h.snoc (fun x hx => hp x (List.mem_append_left _ hx)) e1) (by simpa using hp) e2
    simpa using this
theorem lab_of {n : Nat} {ps : List Pipe} {L : List Nat} (hp : ∀ q ∈ ps, q.s < n ∧ q.t < n) (h : treesOf n ps = some L) : Lab n ps L := by
  simpa using Lab.fold ps [] _ L (Lab.nil n) (by simpa using hp) h

/-! ## potentials: a function on the places with given differences along the pipes -/
theorem pot_fold {n : Nat} : ∀ (qs ps : List (Pipe × Nat)) (L F : List Nat), Lab n (ps.map (·.1)) L → (∀ q ∈ ps ++ qs, q.1.s < n ∧ q.1.t < n) → (qs.map (·.1)).foldlM treesStep L = some F →
    (∀ g : Nat → Int, ∃ f : Nat → Int, ∀ a ∈ ps, f a.1.t - f a.1.s = g a.2) → ∀ g : Nat → Int, ∃ f : Nat → Int, ∀ a ∈ ps ++ qs, f a.1.t - f a.1.s = g a.2
  | [], ps, L, F, _, _, _, h, g => by simpa using h g
  | q :: qs, ps, L, F, hL, hp, e, h, g => by
    obtain ⟨M, e1, e2⟩ := foldM_cons (by simpa using e)
    have hp' : ∀ x ∈ ps.map (·.1), x.s < n ∧ x.t < n := fun x hx => by
      obtain ⟨a, ha, rfl⟩ := List.mem_map.mp hx
      exact hp a (List.mem_append_left _ ha)
    have hL' : Lab n ((ps ++ [q]).map (·.1)) M := by simpa using hL.snoc hp' e1
    suffices hg : ∀ g : Nat → Int, ∃ f : Nat → Int, ∀ a ∈ ps ++ [q], f a.1.t - f a.1.s = g a.2 by
      simpa using pot_fold qs (ps ++ [q]) M F hL' (by simpa using hp) e2 hg g
    · intro g
      obtain ⟨f, hf⟩ := h g
      obtain ⟨hs, ht, hne, -, -⟩ := step_some e1
      refine ⟨fun x => f x + (if lb L x = lb L q.1.t then g q.2 - (f q.1.t - f q.1.s) else 0), fun a ha => ?_⟩
      rcases List.mem_append.mp ha with ha | ha
      · have := hL.same a.1 (List.mem_map_of_mem ha)
        have := hf a ha
        simp only [‹lb L a.1.s = lb L a.1.t›]
        omega
      · simp at ha; subst ha
        simp only [if_true, if_neg hne]
        omega
theorem pot_of {n : Nat} {ps : List (Pipe × Nat)} {L : List Nat} (hp : ∀ q ∈ ps, q.1.s < n ∧ q.1.t < n) (h : treesOf n (ps.map (·.1)) = some L) (g : Nat → Int) :
    ∃ f : Nat → Int, ∀ a ∈ ps, f a.1.t - f a.1.s = g a.2 := by
  have := pot_fold ps [] (List.range n) L (by simpa using Lab.nil n) (by simpa using hp) h (fun g => ⟨fun _ => 0, by simp⟩) g
  simpa using this
/-- pipes with potentials have trees -/
theorem trees_of_pots {n : Nat} : ∀ (qs ps : List (Pipe × Nat)) (L : List Nat), Lab n (ps.map (·.1)) L → (∀ q ∈ ps ++ qs, q.1.s < n ∧ q.1.t < n) → ((ps ++ qs).map (·.2)).Nodup →
    (∀ g : Nat → Int, ∃ f : Nat → Int, ∀ a ∈ ps ++ qs, f a.1.t - f a.1.s = g a.2) → (qs.map (·.1)).foldlM treesStep L ≠ none
  | [], ps, L, _, _, _, _ => by simp
  | q :: qs, ps, L, hL, hp, nd, h => by
    obtain ⟨q1, q2⟩ := hp q (by simp)
    cases e : treesStep L q.1 with
    | none =>
      exfalso
      have e1 := step_none (by rw [hL.len]; exact q1) (by rw [hL.len]; exact q2) e
      obtain ⟨f, hf⟩ := h fun k => if k = q.2 then 1 else 0
      have hq := hf q (by simp)
      simp only [if_true] at hq
      have := hL.conn _ _ q1 q2 e1 (fun x => f x = f q.1.s) fun p hpm => ?_
      · have := this.mp rfl
        omega
      · obtain ⟨a, ha, rfl⟩ := List.mem_map.mp hpm
        have h1 := hf a (List.mem_append_left _ ha)
        have hne : a.2 ≠ q.2 := by
          rw [List.map_append, List.nodup_append] at nd
          exact nd.2.2 _ (List.mem_map_of_mem ha) _ (by simp)
        rw [if_neg hne] at h1
        constructor <;> intro <;> omega
    | some M =>
      have hp' : ∀ x ∈ ps.map (·.1), x.s < n ∧ x.t < n := fun x hx => by
        obtain ⟨a, ha, rfl⟩ := List.mem_map.mp hx
        exact hp a (List.mem_append_left _ ha)
      have hL' : Lab n ((ps ++ [q]).map (·.1)) M := by simpa using hL.snoc hp' e
      have := trees_of_pots qs (ps ++ [q]) M hL' (by simpa using hp) (by simpa using nd) (by simpa using h)
      rw [List.map_cons, List.foldlM_cons, e]
      exact this

/-! ## numbers on the pipes that balance every class -/
def flX (as : List (Pipe × Nat)) (r : Nat → Int) (x : Nat) : Int := (as.map fun a => r a.2 * (one a.1.t x - one a.1.s x)).sum
theorem flX_congr {as : List (Pipe × Nat)} {r r' : Nat → Int} (h : ∀ a ∈ as, r a.2 = r' a.2) (x : Nat) : flX as r x = flX as r' x := by
  unfold flX
  rw [List.map_congr_left fun a ha => by rw [h a ha]]
def clsum (n : Nat) (L : List Nat) (d : Nat → Int) (l : Nat) : Int := sm (fun x => if lb L x = l then d x else 0) n
theorem bal_fold {n : Nat} {b : Int} : ∀ (as : List (Pipe × Nat)) (L F : List Nat), L.length = n → (as.map (·.2)).Nodup → (as.map (·.1)).foldlM treesStep L = some F →
    ∀ d : Nat → Int, (∀ l, b ∣ clsum n F d l) → ∃ r : Nat → Int, ∀ l, b ∣ clsum n L (fun x => d x + flX as r x) l
  | [], L, F, _, _, e, d, h => by
    simp at e; subst e
    exact ⟨fun _ => 0, fun l => by simpa [flX] using h l⟩
  | a :: as, L, F, hl, nd, e, d, h => by
    obtain ⟨M, e1, e2⟩ := foldM_cons (by simpa using e)
    obtain ⟨hs, ht, hne, hlM, hM⟩ := step_some e1
    rw [hl] at hs ht hM hlM
    have nd' : a.2 ∉ as.map (·.2) ∧ (as.map (·.2)).Nodup := List.nodup_cons.mp nd
    obtain ⟨r, hr⟩ := bal_fold as M F hlM nd'.2 e2 d h
    let d1 : Nat → Int := fun x => d x + flX as r x
    let δ : Int := clsum n L d1 (lb L a.1.s)
    refine ⟨fun k => if k = a.2 then δ else r k, fun l => ?_⟩
    have e3 : ∀ x, d x + flX (a :: as) (fun k => if k = a.2 then δ else r k) x = d1 x + δ * (one a.1.t x - one a.1.s x) := fun x => by
      have : flX as (fun k => if k = a.2 then δ else r k) x = flX as r x := flX_congr (fun b hb => if_neg fun z => nd'.1 (by rw [← z]; exact List.mem_map_of_mem hb)) x
      show d x + ((if a.2 = a.2 then δ else r a.2) * (one a.1.t x - one a.1.s x) + flX as (fun k => if k = a.2 then δ else r k) x) = _
      rw [this, if_pos rfl]
      show _ = d x + flX as r x + _
      omega
    have e4 : clsum n L (fun x => d x + flX (a :: as) (fun k => if k = a.2 then δ else r k) x) l = clsum n L d1 l + ((if lb L a.1.t = l then δ else 0) - (if lb L a.1.s = l then δ else 0)) := by
      have : clsum n L (fun x => d x + flX (a :: as) (fun k => if k = a.2 then δ else r k) x) l =
          sm (fun x => (if lb L x = l then d1 x else 0) + ((if x = a.1.t then (if lb L a.1.t = l then δ else 0) else 0) + (if x = a.1.s then (if lb L a.1.s = l then -δ else 0) else 0))) n := by
        refine sm_congr n fun x hx => ?_
        show (if lb L x = l then d x + flX (a :: as) (fun k => if k = a.2 then δ else r k) x else 0) = _
        rw [e3]
        unfold one
        by_cases c1 : a.1.t = x
        · by_cases c2 : a.1.s = x
          · exact absurd (by rw [c1, c2]) hne
          · subst c1
            have c3 : ¬ a.1.t = a.1.s := fun z => c2 z.symm
            simp only [c2, c3, if_true, if_false, Int.sub_zero, Int.mul_one]
            split <;> omega
        · by_cases c2 : a.1.s = x
          · subst c2
            have c3 : ¬ a.1.s = a.1.t := fun z => c1 z.symm
            simp only [c1, c3, if_true, if_false, Int.zero_sub, Int.mul_neg, Int.mul_one]
            split <;> omega
          · have c3 : ¬ x = a.1.t := fun z => c1 z.symm
            have c4 : ¬ x = a.1.s := fun z => c2 z.symm
            simp only [c1, c2, c3, c4, if_false, Int.sub_zero, Int.mul_zero]
            split <;> omega
      rw [this, sm_add, sm_add, sm_one _ _ ht, sm_one _ _ hs]
      show clsum n L d1 l + _ = _
      split <;> split <;> omega
    rw [e4]
    by_cases c1 : lb L a.1.s = l
    · have c2 : lb L a.1.t ≠ l := fun z => hne (by rw [c1, z])
      rw [if_pos c1, if_neg c2, ← c1]
      show b ∣ δ + (0 - δ)
      rw [show δ + (0 - δ) = 0 by omega]; exact Int.dvd_zero b
    · by_cases c2 : lb L a.1.t = l
      · rw [if_neg c1, if_pos c2, ← c2]
        have key : clsum n M d1 (min (lb L a.1.s) (lb L a.1.t)) = clsum n L d1 (lb L a.1.t) + clsum n L d1 (lb L a.1.s) := by
          unfold clsum
          rw [← sm_add]
          refine sm_congr n fun x hx => ?_
          rw [hM x hx]
          by_cases z1 : lb L x = lb L a.1.s
          · have z2 : lb L x ≠ lb L a.1.t := fun z => hne (by rw [← z1, z])
            have z3 : lb L x = lb L a.1.s ∨ lb L x = lb L a.1.t := .inl z1
            simp only [if_pos z3, if_neg z2, if_pos z1, if_true]; omega
          · by_cases z2 : lb L x = lb L a.1.t
            · have z3 : lb L x = lb L a.1.s ∨ lb L x = lb L a.1.t := .inr z2
              simp only [if_pos z3, if_pos z2, if_neg z1, if_true]; omega
            · have z3 : ¬ (lb L x = lb L a.1.s ∨ lb L x = lb L a.1.t) := by simp [z1, z2]
              simp only [if_neg z3]
              rw [if_neg z2, if_neg z1, if_neg (by omega)]; omega
        have := hr (min (lb L a.1.s) (lb L a.1.t))
        rw [show clsum n M (fun x => d x + flX as r x) = clsum n M d1 from rfl, key] at this
        simpa using this
      · rw [if_neg c1, if_neg c2]
        have key : clsum n L d1 l = (if l = min (lb L a.1.s) (lb L a.1.t) then 0 else clsum n M d1 l) := by
          have hl0 : l ≠ min (lb L a.1.s) (lb L a.1.t) := by omega
          rw [if_neg hl0]
          unfold clsum
          refine sm_congr n fun x hx => ?_
          rw [hM x hx]
          by_cases z1 : lb L x = lb L a.1.s ∨ lb L x = lb L a.1.t
          · rw [if_pos z1, if_neg (by omega), if_neg (by omega)]
          · rw [if_neg z1]
        rw [key]
        split
        · simp
        · simpa using hr l
theorem bal_of {n : Nat} {b : Int} {as : List (Pipe × Nat)} {F : List Nat} (nd : (as.map (·.2)).Nodup) (e : treesOf n (as.map (·.1)) = some F) (d : Nat → Int) (h : ∀ l, b ∣ clsum n F d l) :
    ∃ r : Nat → Int, ∀ x, x < n → b ∣ d x + flX as r x := by
  obtain ⟨r, hr⟩ := bal_fold as (List.range n) F (by simp) nd e d h
  refine ⟨r, fun x hx => ?_⟩
  have := hr x
  have e1 : clsum n (List.range n) (fun x => d x + flX as r x) x = d x + flX as r x := by
    unfold clsum
    rw [sm_congr (g := fun y => if y = x then d x + flX as r x else 0) n fun y hy => ?_, sm_one _ n hx]
    unfold lb
    rw [List.getElem?_range hy]
    simp only [Option.getD_some]
    by_cases z : y = x
    · subst z; simp
    · simp [z]
  rwa [e1] at this

/-! ## what crosses a set -/
def ind (A : List Nat) (x : Nat) : Int := if x ∈ A then 1 else 0
theorem ind_in {A : List Nat} {x : Nat} (h : x ∈ A) : ind A x = 1 := if_pos h
theorem ind_out {A : List Nat} {x : Nat} (h : x ∉ A) : ind A x = 0 := if_neg h
theorem ind_congr {A B : List Nat} {x y : Nat} (h : x ∈ A ↔ y ∈ B) : ind A x = ind B y := by
  unfold ind
  by_cases c : x ∈ A
  · rw [if_pos c, if_pos (h.mp c)]
  · rw [if_neg c, if_neg (fun z => c (h.mpr z))]
theorem one_ind (a p : Nat) : one a p = ind [p] a := by
  unfold one ind; simp
def cut (as : List (Pipe × Nat)) (v : Nat → Int) (A : List Nat) : Int := (as.map fun a => v a.2 * (ind A a.1.t - ind A a.1.s)).sum
theorem cut_cons0 {a : Pipe × Nat} {as : List (Pipe × Nat)} {v : Nat → Int} {A : List Nat} : cut (a :: as) v A = v a.2 * (ind A a.1.t - ind A a.1.s) + cut as v A := by
  unfold cut; rw [List.map_cons, List.sum_cons]
theorem flX_cut {as : List (Pipe × Nat)} {v : Nat → Int} {x : Nat} : flX as v x = cut as v [x] := by
  unfold flX cut
  rw [List.map_congr_left fun a _ => by rw [one_ind, one_ind]]
theorem cut_sets {as : List (Pipe × Nat)} {v : Nat → Int} {A B : List Nat} (h : ∀ x, x ∈ A ↔ x ∈ B) : cut as v A = cut as v B := by
  unfold cut
  rw [List.map_congr_left fun a _ => by rw [ind_congr (h a.1.t), ind_congr (h a.1.s)]]
theorem cut_new {as : List (Pipe × Nat)} {v : Nat → Int} {A : List Nat} {x : Nat} (h : x ∉ A) : cut as v (x :: A) = cut as v [x] + cut as v A := by
  have key : ∀ y, ind (x :: A) y = ind [x] y + ind A y := fun y => by
    unfold ind
    by_cases c : y = x
    · subst c; simp [h]
    · simp [c]
  induction as with
  | nil => rfl
  | cons a as ih =>
    rw [cut_cons0, cut_cons0, cut_cons0, ih, key, key, show (ind [x] a.1.t + ind A a.1.t - (ind [x] a.1.s + ind A a.1.s)) = (ind [x] a.1.t - ind [x] a.1.s) + (ind A a.1.t - ind A a.1.s) by omega, Int.mul_add]
    omega
theorem cut_old {as : List (Pipe × Nat)} {v : Nat → Int} {A : List Nat} {x : Nat} (h : x ∈ A) : cut as v (x :: A) = cut as v A :=
  cut_sets fun y => by simp; rintro rfl; exact h
theorem cut_nil {as : List (Pipe × Nat)} {v : Nat → Int} : cut as v [] = 0 := by
  induction as with
  | nil => rfl
  | cons a as ih => rw [cut_cons0, ih]; simp [ind]
theorem cut_dvd {as : List (Pipe × Nat)} {v : Nat → Int} {b : Int} : ∀ {A : List Nat}, (∀ x ∈ A, b ∣ cut as v [x]) → b ∣ cut as v A
  | [], _ => by rw [cut_nil]; exact Int.dvd_zero b
  | x :: A, h => by
    have ih := cut_dvd (A := A) fun y hy => h y (by simp [hy])
    by_cases c : x ∈ A
    · rw [cut_old c]; exact ih
    · rw [cut_new c]; exact Int.dvd_add (h x (by simp)) ih
theorem cut_term {as : List (Pipe × Nat)} {v w : Nat → Int} {A B : List Nat} (h : ∀ a ∈ as, v a.2 * (ind A a.1.t - ind A a.1.s) = w a.2 * (ind B a.1.t - ind B a.1.s)) : cut as v A = cut as w B := by
  unfold cut
  rw [List.map_congr_left h]
theorem cut_mod {b : Int} {v w : Nat → Int} {A B : List Nat} : ∀ {as : List (Pipe × Nat)}, (∀ a ∈ as, b ∣ v a.2 * (ind A a.1.t - ind A a.1.s) - w a.2 * (ind B a.1.t - ind B a.1.s)) → b ∣ cut as v A - cut as w B
  | [], _ => by show b ∣ 0 - 0; exact Int.dvd_zero b
  | a :: as, h => by
    have ih := cut_mod (as := as) fun x hx => h x (by simp [hx])
    have h0 := h a (by simp)
    rw [cut_cons0, cut_cons0]
    have := Int.dvd_add h0 ih
    rw [show v a.2 * (ind A a.1.t - ind A a.1.s) - w a.2 * (ind B a.1.t - ind B a.1.s) + (cut as v A - cut as w B) = v a.2 * (ind A a.1.t - ind A a.1.s) + cut as v A - (w a.2 * (ind B a.1.t - ind B a.1.s) + cut as w B) by omega] at this
    exact this
theorem cut_add {as : List (Pipe × Nat)} {v w u : Nat → Int} {c : Pipe → Bool} {A : List Nat} (h : ∀ a ∈ as, v a.2 = w a.2 + if c a.1 then u a.2 else 0) :
    cut as v A = cut as w A + cut (as.filter fun a => c a.1) u A := by
  induction as with
  | nil => rfl
  | cons a as ih =>
    have h0 := h a (by simp)
    rw [cut_cons0, cut_cons0, ih fun x hx => h x (by simp [hx]), h0]
    cases hc : c a.1 with
    | true => rw [List.filter_cons_of_pos (by simp [hc]), cut_cons0, if_pos rfl, Int.add_mul]; omega
    | false => rw [List.filter_cons_of_neg (by simp [hc])]; simp; omega
theorem sub_sum : ∀ (as : List (Pipe × Nat)) (v : Nat → Int) (A : List Nat),
    (((as.filter fun a => entC A a.1).map (·.2)).map v).sum - (((as.filter fun a => leaC A a.1).map (·.2)).map v).sum = cut as v A
  | [], v, A => rfl
  | a :: as, v, A => by
    have ih := sub_sum as v A
    rw [cut_cons0]
    by_cases h1 : a.1.t ∈ A <;> by_cases h2 : a.1.s ∈ A
    · rw [List.filter_cons_of_neg (by simp [entC, h1, h2]), List.filter_cons_of_neg (by simp [leaC, h1, h2]), ih]; simp [ind, h1, h2]
    · rw [List.filter_cons_of_pos (by simp [entC, h1, h2]), List.filter_cons_of_neg (by simp [leaC, h1, h2]), List.map_cons, List.map_cons, List.sum_cons]; simp only [ind, h1, h2, if_true, if_false]; omega
    · rw [List.filter_cons_of_neg (by simp [entC, h1, h2]), List.filter_cons_of_pos (by simp [leaC, h1, h2]), List.map_cons, List.map_cons, List.sum_cons]; simp only [ind, h1, h2, if_true, if_false]; omega
    · rw [List.filter_cons_of_neg (by simp [entC, h1, h2]), List.filter_cons_of_neg (by simp [leaC, h1, h2]), ih]; simp [ind, h1, h2]
theorem cut_idxs {ps : List Pipe} {v : Nat → Int} {A : List Nat} : ((idxs ps (entC A)).map v).sum - ((idxs ps (leaC A)).map v).sum = cut (enP ps) v A := sub_sum _ v A
theorem totI_cut {N : Net} {A : List Nat} : totI N A = cut (enP N.ps) (cvI N) A := cut_idxs
theorem en_get {ps : List Pipe} {a : Pipe × Nat} (h : a ∈ enP ps) : ps[a.2]? = some a.1 := List.mem_zipIdx_iff_getElem?.mp h
theorem en_mem {ps : List Pipe} {i : Nat} {p : Pipe} (h : ps[i]? = some p) : (p, i) ∈ enP ps := List.mem_zipIdx_iff_getElem?.mpr h
theorem en_nd (ps : List Pipe) : ((enP ps).map (·.2)).Nodup := by
  rw [List.zipIdx_map_snd]; exact List.nodup_range'
theorem en_cv {N : Net} {a : Pipe × Nat} (h : a ∈ enP N.ps) : cvI N a.2 = cval N.b a.1 := by
  unfold cvI; rw [en_get h]
theorem en_open {N : Net} {a : Pipe × Nat} (h : a ∈ enP N.ps) (o : a.1.op = true) : cvI N a.2 = 0 := by
  rw [en_cv h]; unfold cval; rw [if_pos o]
theorem en_filter (ps : List Pipe) (c : Pipe → Bool) : ((enP ps).filter fun a => c a.1).map (·.1) = ps.filter c := by
  have h : (enP ps).map (·.1) = ps := List.zipIdx_map_fst _ _
  conv => rhs; rw [← h, List.filter_map]
  rfl
theorem sum_at {c : Int} {i : Nat} : ∀ {as : List (Pipe × Nat)}, (as.map (·.2)).Nodup → i ∈ as.map (·.2) → (as.map fun a => if a.2 = i then c else 0).sum = c
  | [], _, h => by simp at h
  | a :: as, nd, h => by
    have nd' := List.nodup_cons.mp nd
    rw [List.map_cons, List.sum_cons]
    by_cases e : a.2 = i
    · have z : (as.map fun a => if a.2 = i then c else 0) = as.map fun _ => 0 := List.map_congr_left fun x hx => if_neg fun z => nd'.1 (by
        show a.2 ∈ _
        rw [e, ← z]; exact List.mem_map_of_mem hx)
      have z2 : ∀ l : List (Pipe × Nat), (l.map fun _ => (0 : Int)).sum = 0 := fun l => by induction l <;> simp_all
      rw [if_pos e, z, z2]; omega
    · have h' : i ∈ as.map (·.2) := by
        rw [List.map_cons] at h
        rcases List.mem_cons.mp h with h | h
        · exact absurd h.symm e
        · exact h
      rw [if_neg e, sum_at nd'.2 h']; omega
theorem sum_map_add {α : Type} (f g : α → Int) : ∀ l : List α, (l.map fun a => f a + g a).sum = (l.map f).sum + (l.map g).sum
  | [] => rfl
  | a :: l => by simp [sum_map_add f g l]; omega
theorem sm_filter {as : List (Pipe × Nat)} {v : Nat → Int} (P : Nat → Bool) : ∀ n, sm (fun x => if P x then cut as v [x] else 0) n = cut as v ((List.range n).filter P)
  | 0 => by rw [show (List.range 0).filter P = [] from rfl, cut_nil]; rfl
  | n + 1 => by
    show sm _ n + (if P n then cut as v [n] else 0) = _
    rw [sm_filter P n, List.range_succ, List.filter_append]
    cases h : P n with
    | false => simp [h]
    | true =>
      have : n ∉ (List.range n).filter P := fun z => by
        have := List.mem_range.mp (List.mem_filter.mp z).1
        omega
      rw [if_pos rfl, show [n].filter P = [n] by simp [h], cut_sets (A := (List.range n).filter P ++ [n]) (B := n :: (List.range n).filter P) (fun x => by simp [or_comm]), cut_new this]
      omega

/-! ## what is joined -/
theorem rnd_grow {o : Option Nat} {ps : List Pipe} {f : List Nat} : ∀ k, rndF o ps (rndN o ps k f) = rndN o ps k f ∨ f.length + k ≤ (rndN o ps k f).length
  | 0 => .inr (Nat.le_refl _)
  | k + 1 => by
    have e : rndN o ps (k + 1) f = rndF o ps (rndN o ps k f) := by rw [rndN_add]; rfl
    rcases rnd_grow (o := o) (ps := ps) (f := f) k with h | h
    · exact .inl (by rw [e, h, h])
    · by_cases c : (rndF o ps (rndN o ps k f)).length = (rndN o ps k f).length
      · have := rndF_same c
        exact .inl (by rw [e, this, this])
      · have := rndF_le (o := o) (ps := ps) (f := rndN o ps k f)
        exact .inr (by rw [e]; omega)
theorem clo_fix {N : Net} (V : Valid N) {o : Option Nat} {x : Nat} (h : x < N.n) : rndF o N.ps (clo N o x) = clo N o x := by
  rcases rnd_grow (o := o) (ps := N.ps) (f := [x]) N.n with e | e
  · exact e
  · have := (clo_ok V (o := o) h).len
    unfold clo at this
    simp at e
    omega
theorem fold_fix {o : Option Nat} : ∀ {as : List (Pipe × Nat)} {f : List Nat}, as.foldl (stepF o) f = f → ∀ a ∈ as, stepF o f a = f
  | [], _, _ => by simp
  | a :: as, f, h => by
    rw [List.foldl_cons] at h
    obtain ⟨t, ht⟩ := foldF_app (o := o) as (stepF o f a)
    have hs : ∃ u, stepF o f a = f ++ u := by
      unfold stepF; split
      · exact ⟨_, rfl⟩
      · exact ⟨[], by simp⟩
    obtain ⟨u, hu⟩ := hs
    have : f ++ (u ++ t) = f := by rw [← List.append_assoc, ← hu, ← ht]; exact h
    have : u ++ t = [] := by simpa using this
    have hu0 : u = [] := (List.append_eq_nil_iff.mp this).1
    have h0 : stepF o f a = f := by rw [hu, hu0]; simp
    rw [h0] at h
    intro b hb
    rcases List.mem_cons.mp hb with rfl | hb
    · exact h0
    · exact fold_fix h b hb
theorem clo_shut {N : Net} (V : Valid N) {o : Option Nat} {x : Nat} (h : x < N.n) {a : Pipe × Nat} (ha : a ∈ enP N.ps) (ho : some a.2 ≠ o) (hop : a.1.op = true) : a.1.s ∈ clo N o x ↔ a.1.t ∈ clo N o x := by
  have := fold_fix (clo_fix V (o := o) h) a ha
  unfold stepF at this
  by_cases c : crossP (clo N o x) a.1 = true
  · rw [if_pos (by simp [ho, hop, c])] at this
    simp at this
  · unfold crossP at c
    by_cases c1 : a.1.s ∈ clo N o x <;> by_cases c2 : a.1.t ∈ clo N o x <;> simp_all
theorem step_all {o : Option Nat} {T : Nat → Prop} {f : List Nat} {a : Pipe × Nat} (hT : some a.2 ≠ o → a.1.op = true → (T a.1.s ↔ T a.1.t)) (h : ∀ x ∈ f, T x) : ∀ x ∈ stepF o f a, T x := by
  unfold stepF
  split
  · rename_i c
    simp only [Bool.and_eq_true, decide_eq_true_eq] at c
    have hT' := hT c.1 c.2.1
    have hx := c.2.2
    unfold crossP at hx
    intro x hx'
    rcases List.mem_append.mp hx' with hm | hm
    · exact h x hm
    · simp only [List.mem_singleton] at hm
      subst hm
      by_cases c1 : a.1.s ∈ f
      · rw [if_pos c1]; exact hT'.mp (h _ c1)
      · have c2 : a.1.t ∈ f := by
          by_cases c2 : a.1.t ∈ f
          · exact c2
          · simp [c1, c2] at hx
        rw [if_neg c1]; exact hT'.mpr (h _ c2)
  · exact h
theorem fold_all {o : Option Nat} {T : Nat → Prop} : ∀ {as : List (Pipe × Nat)} {f : List Nat}, (∀ a ∈ as, some a.2 ≠ o → a.1.op = true → (T a.1.s ↔ T a.1.t)) → (∀ x ∈ f, T x) → ∀ x ∈ as.foldl (stepF o) f, T x
  | [], _, _, h => h
  | a :: as, f, hT, h => fold_all (as := as) (f := stepF o f a) (fun b hb => hT b (by simp [hb])) (step_all (hT a (by simp)) h)
theorem clo_all {N : Net} {o : Option Nat} {x : Nat} {T : Nat → Prop} (hT : ∀ a ∈ enP N.ps, some a.2 ≠ o → a.1.op = true → (T a.1.s ↔ T a.1.t)) (h : T x) : ∀ y ∈ clo N o x, T y := by
  have go : ∀ k (f : List Nat), (∀ x ∈ f, T x) → ∀ x ∈ rndN o N.ps k f, T x := by
    intro k
    induction k with
    | zero => intro f h; exact h
    | succ k ih => intro f h; exact ih _ (fold_all hT h)
  exact go _ _ (by simpa using h)
/-- two places with a common member are joined with the same places -/
theorem clo_eq {N : Net} (V : Valid N) {o : Option Nat} {x y : Nat} (hx : x < N.n) (hy : y ∈ clo N o x) : ∀ z, z ∈ clo N o y ↔ z ∈ clo N o x := by
  have hyn := (clo_ok V hx).lt y hy
  have hxy : x ∈ clo N o y := by
    have := clo_all (N := N) (o := o) (x := x) (T := fun z => z ∈ clo N o y ↔ x ∈ clo N o y) (fun a ha h1 h2 => by rw [clo_shut V hyn ha h1 h2]) Iff.rfl y hy
    exact this.mp clo_self
  intro z
  constructor
  · exact clo_all (T := fun z => z ∈ clo N o x) (fun a ha h1 h2 => clo_shut V hx ha h1 h2) hy z
  · exact clo_all (T := fun z => z ∈ clo N o y) (fun a ha h1 h2 => clo_shut V hyn ha h1 h2) hxy z

/-! ## the forest of the open pipes -/
abbrev opE (N : Net) : List (Pipe × Nat) := (enP N.ps).filter fun a => a.1.op
theorem opE_mem {N : Net} {a : Pipe × Nat} : a ∈ opE N ↔ a ∈ enP N.ps ∧ a.1.op = true := by
  unfold opE; rw [List.mem_filter]
theorem opE_ops (N : Net) : (opE N).map (·.1) = N.ops := en_filter N.ps Pipe.op
theorem opE_nd (N : Net) : ((opE N).map (·.2)).Nodup := (en_nd N.ps).sublist (List.filter_sublist.map _)
theorem Valid.endsE {N : Net} (V : Valid N) {a : Pipe × Nat} (h : a ∈ enP N.ps) : a.1.s < N.n ∧ a.1.t < N.n := V.ends a.1 (List.fst_mem_of_mem_zipIdx h)
theorem Valid.lab {N : Net} (V : Valid N) {L : List Nat} (h : treesOf N.n N.ops = some L) : Lab N.n N.ops L :=
  lab_of (fun p hp => V.ends p (List.mem_filter.mp hp).1) h
theorem Valid.pots {N : Net} (V : Valid N) (g : Nat → Int) : ∃ f : Nat → Int, ∀ a ∈ opE N, f a.1.t - f a.1.s = g a.2 := by
  cases e : treesOf N.n N.ops with
  | none => exact absurd e V.tree
  | some L => exact pot_of (n := N.n) (L := L) (fun a ha => V.endsE (opE_mem.mp ha).1) (by rw [opE_ops]; exact e) g
theorem far_off {N : Net} (V : Valid N) {a : Pipe × Nat} (ha : a ∈ enP N.ps) (hop : a.1.op = true) : a.1.t ∉ clo N (some a.2) a.1.s ∧ a.1.s ∉ clo N (some a.2) a.1.t := by
  obtain ⟨f, hf⟩ := V.pots fun k => if k = a.2 then 1 else 0
  have h1 := hf a (opE_mem.mpr ⟨ha, hop⟩)
  simp only [if_true] at h1
  have hT : ∀ c, ∀ b ∈ enP N.ps, some b.2 ≠ some a.2 → b.1.op = true → (f b.1.s = c ↔ f b.1.t = c) := fun c b hb hne ho => by
    have h2 := hf b (opE_mem.mpr ⟨hb, ho⟩)
    rw [if_neg (fun z => hne (by rw [z]))] at h2
    constructor <;> intro <;> omega
  constructor
  · intro z
    have := clo_all (T := fun y => f y = f a.1.s) (hT _) rfl _ z
    omega
  · intro z
    have := clo_all (T := fun y => f y = f a.1.t) (hT _) rfl _ z
    omega
theorem lab_clo {N : Net} (V : Valid N) {L : List Nat} (e : treesOf N.n N.ops = some L) {x y : Nat} (hx : x < N.n) (hy : y < N.n) : lb L y = lb L x ↔ y ∈ clo N none x := by
  have h := V.lab e
  constructor
  · intro q
    have := h.conn x y hx hy q.symm (fun z => z ∈ clo N none x) fun p hp => ?_
    · exact this.mp clo_self
    · obtain ⟨h1, h2⟩ := List.mem_filter.mp hp
      obtain ⟨i, hi⟩ := List.getElem?_of_mem h1
      exact clo_shut V hx (a := (p, i)) (en_mem hi) (by simp) h2
  · intro q
    exact clo_all (T := fun z => lb L z = lb L x) (fun a ha _ ho => by
      rw [h.same a.1 (List.mem_filter.mpr ⟨List.fst_mem_of_mem_zipIdx ha, ho⟩)]) rfl y q
/-- the sum of every cluster is 0 -/
def Even (N : Net) : Prop := ∀ x, x < N.n → N.b ∣ totI N (clo N none x)
theorem class_dvd {N : Net} (V : Valid N) (E : Even N) {L : List Nat} (e : treesOf N.n N.ops = some L) (l : Nat) : N.b ∣ cut (enP N.ps) (cvI N) ((List.range N.n).filter fun x => decide (lb L x = l)) := by
  by_cases c : ∃ x, x < N.n ∧ lb L x = l
  · obtain ⟨x, hx, rfl⟩ := c
    have := E x hx
    rw [totI_cut] at this
    rwa [cut_sets (B := clo N none x)]
    intro y
    simp only [List.mem_filter, List.mem_range, decide_eq_true_eq]
    constructor
    · rintro ⟨h1, h2⟩; exact (lab_clo V e hx h1).mp h2
    · intro h
      have hy := (clo_ok V hx).lt y h
      exact ⟨hy, (lab_clo V e hx hy).mpr h⟩
  · have : (List.range N.n).filter (fun x => decide (lb L x = l)) = [] := by
      rw [List.filter_eq_nil_iff]
      intro x hx
      simp only [decide_eq_true_eq]
      exact fun z => c ⟨x, List.mem_range.mp hx, z⟩
    rw [this, cut_nil]; exact Int.dvd_zero _
theorem Even.bal {N : Net} (V : Valid N) (E : Even N) {L : List Nat} (e : treesOf N.n N.ops = some L) : Bal N L := by
  intro g hg
  have hl := (V.lab e).len
  obtain ⟨hg, -⟩ := List.mem_filter.mp hg
  obtain ⟨l, -, rfl⟩ := List.mem_map.mp hg
  have h1 : classL N.n L l = (List.range N.n).filter fun x => decide (lb L x = l) := by
    unfold classL
    refine List.filter_congr fun x hx => ?_
    have hx' := List.mem_range.mp hx
    unfold lb
    rw [List.getElem?_eq_getElem (by omega)]
    simp
  unfold tot
  rw [totI_cut, h1]
  exact Int.emod_eq_zero_of_dvd (class_dvd V E e l)
/-- numbers that balance every place -/
theorem nums {N : Net} (V : Valid N) (E : Even N) : ∃ v : Nat → Int, (∀ a ∈ enP N.ps, a.1.op = false → v a.2 = cvI N a.2) ∧ ∀ A, N.b ∣ cut (enP N.ps) v A := by
  cases e : treesOf N.n N.ops with
  | none => exact absurd e V.tree
  | some L =>
    obtain ⟨r, hr⟩ := bal_of (n := N.n) (b := N.b) (as := opE N) (F := L) (opE_nd N) (by rw [opE_ops]; exact e) (fun x => cut (enP N.ps) (cvI N) [x]) fun l => by
      have := class_dvd V E e l
      rw [← sm_filter] at this
      unfold clsum
      rw [sm_congr (g := fun x => if decide (lb L x = l) then cut (enP N.ps) (cvI N) [x] else 0) N.n fun x _ => by simp]
      exact this
    let v : Nat → Int := fun i => cvI N i + match N.ps[i]? with
      | some p => if p.op then r i else 0
      | none => 0
    have hv : ∀ a ∈ enP N.ps, v a.2 = cvI N a.2 + if a.1.op then r a.2 else 0 := fun a ha => by
      show cvI N a.2 + _ = _
      rw [en_get ha]
    refine ⟨v, fun a ha ho => by rw [hv a ha, ho]; simp, fun A => cut_dvd fun x _ => ?_⟩
    by_cases hx : x < N.n
    · have := hr x hx
      rw [flX_cut] at this
      rw [cut_add (c := Pipe.op) hv]
      exact this
    · have z : cut (enP N.ps) v [x] = cut (enP N.ps) v [] := cut_term fun a ha => by
        obtain ⟨h1, h2⟩ := V.endsE ha
        rw [ind_out (A := [x]) (by simp; omega), ind_out (A := [x]) (by simp; omega), ind_out (by simp), ind_out (by simp)]
      rw [z, cut_nil]; exact Int.dvd_zero _
/-- a set that one open pipe alone crosses -/
theorem one_cross {N : Net} {v : Nat → Int} (hv : ∀ a ∈ enP N.ps, a.1.op = false → v a.2 = cvI N a.2) {A : List Nat} {e : Pipe × Nat} (he : e ∈ enP N.ps) (ho : e.1.op = true) (hA : ∀ a ∈ enP N.ps, some a.2 ≠ some e.2 → a.1.op = true → (a.1.s ∈ A ↔ a.1.t ∈ A)) :
    cut (enP N.ps) v A = totI N A + v e.2 * (ind A e.1.t - ind A e.1.s) := by
  rw [totI_cut]
  have h1 : ∀ a ∈ enP N.ps, v a.2 * (ind A a.1.t - ind A a.1.s) = cvI N a.2 * (ind A a.1.t - ind A a.1.s) + if a.2 = e.2 then v e.2 * (ind A e.1.t - ind A e.1.s) else 0 := fun a ha => by
    by_cases c : a.2 = e.2
    · have : a.1 = e.1 := by
        have h1 := en_get ha
        have h2 := en_get he
        rw [c, h2] at h1
        exact (Option.some.inj h1).symm
      rw [if_pos c, en_open ha (by rw [this]; exact ho), c, this]; simp
    · rw [if_neg c]
      cases ho' : a.1.op with
      | true =>
        rw [en_open ha ho', ind_congr (hA a ha (by simpa using c) ho')]; simp
      | false => rw [hv a ha ho']; simp
  unfold cut
  rw [List.map_congr_left h1, sum_map_add, sum_at (en_nd N.ps) (List.mem_map_of_mem he)]
theorem res_mod {N : Net} (V : Valid N) {v : Nat → Int} (hv : ∀ a ∈ enP N.ps, a.1.op = false → v a.2 = cvI N a.2) (hb : ∀ A, N.b ∣ cut (enP N.ps) v A) {e : Pipe × Nat} (he : e ∈ enP N.ps) (ho : e.1.op = true) :
    N.b ∣ totI N (clo N (some e.2) e.1.s) - v e.2 ∧ N.b ∣ totI N (clo N (some e.2) e.1.t) + v e.2 := by
  obtain ⟨h1, h2⟩ := V.endsE he
  obtain ⟨f1, f2⟩ := far_off V he ho
  constructor
  · have := hb (clo N (some e.2) e.1.s)
    rw [one_cross hv he ho (fun a ha h3 h4 => clo_shut V h1 ha h3 h4), ind_out f1, ind_in clo_self] at this
    rw [show totI N (clo N (some e.2) e.1.s) - v e.2 = totI N (clo N (some e.2) e.1.s) + v e.2 * (0 - 1) by omega]
    exact this
  · have := hb (clo N (some e.2) e.1.t)
    rw [one_cross hv he ho (fun a ha h3 h4 => clo_shut V h2 ha h3 h4), ind_out f2, ind_in clo_self] at this
    rw [show totI N (clo N (some e.2) e.1.t) + v e.2 = totI N (clo N (some e.2) e.1.t) + v e.2 * (1 - 0) by omega]
    exact this

/-! ## residues -/
theorem tot_sets {N : Net} {A B : List Nat} (h : ∀ x, x ∈ A ↔ x ∈ B) : tot N A = tot N B := by
  unfold tot; rw [totI_cut, totI_cut, cut_sets h]
theorem tot_sort {N : Net} {A : List Nat} : tot N (sortN A) = tot N A := tot_sets fun _ => mem_sortN
def resI (N : Net) (i : Nat) : Int := match N.ps[i]? with
  | some p => resV N (p, i)
  | none => 0
theorem en_res {N : Net} {a : Pipe × Nat} (h : a ∈ enP N.ps) : resI N a.2 = resV N a := by
  unfold resI; rw [en_get h]
theorem resV_open {N : Net} {a : Pipe × Nat} (ho : a.1.op = true) : resV N a = tot N (clo N (some a.2) a.1.s) := by
  unfold resV; rw [if_pos ho, tot_sort]
theorem resV_shut {N : Net} {a : Pipe × Nat} (ho : a.1.op = false) : resV N a = shown N.b a.1 := by
  unfold resV; rw [ho]; simp
theorem cval_shut {b : Int} {p : Pipe} (ho : p.op = false) : cval b p = shown b p := by
  unfold cval; rw [ho]; simp
theorem dvd_mod (b x : Int) : b ∣ x - x % b := by
  have := Int.emod_add_mul_ediv x b
  exact ⟨x / b, by omega⟩
theorem mod_eq_of {b x y : Int} (h : b ∣ x - y) (h0 : 0 ≤ y) (h1 : y < b) : x % b = y := by
  have := Int.emod_emod_of_dvd
  rw [Int.emod_eq_emod_iff_emod_sub_eq_zero.mpr (Int.emod_eq_zero_of_dvd h)]
  exact Int.emod_eq_of_lt h0 h1
theorem even_all {N : Net} (V : Valid N) (E : Even N) (A : List Nat) : N.b ∣ cut (enP N.ps) (resI N) A := by
  obtain ⟨v, hv, hb⟩ := nums V E
  have h1 : N.b ∣ cut (enP N.ps) (resI N) A - cut (enP N.ps) v A := cut_mod fun a ha => by
    rw [← Int.sub_mul]
    refine Int.dvd_mul_of_dvd_left ?_
    rw [en_res ha]
    cases ho : a.1.op with
    | true =>
      have h2 := (res_mod V hv hb ha ho).1
      rw [resV_open ho]
      unfold tot
      have h3 := dvd_mod N.b (totI N (clo N (some a.2) a.1.s))
      have := Int.dvd_sub h2 h3
      rw [show totI N (clo N (some a.2) a.1.s) - v a.2 - (totI N (clo N (some a.2) a.1.s) - totI N (clo N (some a.2) a.1.s) % N.b) = totI N (clo N (some a.2) a.1.s) % N.b - v a.2 by omega] at this
      exact this
    | false =>
      rw [resV_shut ho, hv a ha ho, en_cv ha, cval_shut ho, Int.sub_self]; exact Int.dvd_zero _
  have h2 := Int.dvd_add h1 (hb A)
  rwa [Int.sub_add_cancel] at h2
theorem tot_range {N : Net} (V : Valid N) (A : List Nat) : 0 ≤ tot N A ∧ tot N A < N.b := by
  have := V.b2
  exact ⟨Int.emod_nonneg _ (by omega), Int.emod_lt_of_pos _ (by omega)⟩
theorem other_side {N : Net} (V : Valid N) (E : Even N) {a : Pipe × Nat} (ha : a ∈ enP N.ps) (ho : a.1.op = true) :
    tot N (clo N (some a.2) a.1.t) = (0 - resV N a) % N.b ∧ (0 - tot N (clo N (some a.2) a.1.t)) % N.b = resV N a := by
  obtain ⟨v, hv, hb⟩ := nums V E
  obtain ⟨h1, h2⟩ := res_mod V hv hb ha ho
  rw [resV_open ho]
  have h3 := dvd_mod N.b (totI N (clo N (some a.2) a.1.s))
  have h4 := dvd_mod N.b (totI N (clo N (some a.2) a.1.t))
  have r1 := tot_range V (clo N (some a.2) a.1.s)
  have r2 := tot_range V (clo N (some a.2) a.1.t)
  have h5 : N.b ∣ (tot N (clo N (some a.2) a.1.s) + tot N (clo N (some a.2) a.1.t)) := by
    have := Int.dvd_sub (Int.dvd_sub (Int.dvd_add h1 h2) h3) h4
    unfold tot
    rw [show totI N (clo N (some a.2) a.1.s) - v a.2 + (totI N (clo N (some a.2) a.1.t) + v a.2) - (totI N (clo N (some a.2) a.1.s) - totI N (clo N (some a.2) a.1.s) % N.b) - (totI N (clo N (some a.2) a.1.t) - totI N (clo N (some a.2) a.1.t) % N.b) = totI N (clo N (some a.2) a.1.s) % N.b + totI N (clo N (some a.2) a.1.t) % N.b by omega] at this
    exact this
  constructor
  · refine (mod_eq_of ?_ r2.1 r2.2).symm
    have := Int.dvd_neg.mpr h5
    rw [show 0 - tot N (clo N (some a.2) a.1.s) - tot N (clo N (some a.2) a.1.t) = -(tot N (clo N (some a.2) a.1.s) + tot N (clo N (some a.2) a.1.t)) by omega]
    exact this
  · refine mod_eq_of ?_ r1.1 r1.2
    have := Int.dvd_neg.mpr h5
    rw [show 0 - tot N (clo N (some a.2) a.1.t) - tot N (clo N (some a.2) a.1.s) = -(tot N (clo N (some a.2) a.1.s) + tot N (clo N (some a.2) a.1.t)) by omega]
    exact this

/-! ## a pipe turned round -/
theorem step_rev {L : List Nat} {p : Pipe} : treesStep L p.rev = treesStep L p := by
  unfold treesStep Pipe.rev
  simp only
  cases h1 : L[p.t]? with
  | none => cases h2 : L[p.s]? <;> rfl
  | some a =>
    cases h2 : L[p.s]? with
    | none => rfl
    | some b =>
      simp only
      by_cases c : a = b
      · subst c; simp
      · rw [if_neg c, if_neg (fun z => c z.symm)]
        congr 1
        refine List.map_congr_left fun t _ => ?_
        by_cases c1 : t = a
        · subst c1; simp; omega
        · by_cases c2 : t = b
          · subst c2; simp; omega
          · simp [c1, c2]
theorem rev_op {p : Pipe} : p.rev.op = p.op := rfl
theorem cut_at {ps : List Pipe} {i : Nat} {p : Pipe} (h : ps[i]? = some p) : ps = ps.take i ++ p :: ps.drop (i + 1) := by
  obtain ⟨hi, rfl⟩ := List.getElem?_eq_some_iff.mp h
  rw [List.getElem_cons_drop, List.take_append_drop]
section
variable {N : Net} {i : Nat} {p : Pipe} (hp : N.ps[i]? = some p)
include hp
theorem turn_at (j : Nat) : (turnN N i p).ps[j]? = if j = i then some p.rev else N.ps[j]? := by
  have hi := (List.getElem?_eq_some_iff.mp hp).1
  unfold turnN
  simp only
  by_cases c : j < i
  · rw [List.getElem?_append_left (by simp; omega), List.getElem?_take, if_pos c, if_neg (by omega)]
  · rw [List.getElem?_append_right (by simp; omega), List.length_take, Nat.min_eq_left (by omega)]
    by_cases c2 : j = i
    · subst c2; simp
    · rw [if_neg c2, show j - i = (j - i - 1) + 1 by omega, List.getElem?_cons_succ, List.getElem?_drop, show i + 1 + (j - i - 1) = j by omega]
theorem turn_len2 : (turnN N i p).ps.length = N.ps.length := by
  have hi := (List.getElem?_eq_some_iff.mp hp).1
  unfold turnN; simp; omega
theorem turn_mem {a : Pipe × Nat} (h : a ∈ enP (turnN N i p).ps) : (a.2 = i ∧ a.1 = p.rev) ∨ (a.2 ≠ i ∧ a ∈ enP N.ps) := by
  have := en_get h
  rw [turn_at hp] at this
  by_cases c : a.2 = i
  · rw [if_pos c] at this
    exact .inl ⟨c, (Option.some.inj this).symm⟩
  · rw [if_neg c] at this
    exact .inr ⟨c, en_mem this⟩
theorem turn_trees : treesOf (turnN N i p).n (turnN N i p).ops = treesOf N.n N.ops := by
  have e := cut_at hp
  have h1 : N.ops = (N.ps.take i).filter Pipe.op ++ ((p :: N.ps.drop (i + 1)).filter Pipe.op) := by
    unfold Net.ops
    conv => lhs; rw [e]
    rw [List.filter_append]
  have h2 : (turnN N i p).ops = (N.ps.take i).filter Pipe.op ++ ((p.rev :: N.ps.drop (i + 1)).filter Pipe.op) := by
    unfold Net.ops turnN
    rw [List.filter_append]
  unfold treesOf
  rw [h1, h2, List.foldlM_append, List.foldlM_append]
  show Option.bind _ _ = Option.bind _ _
  congr 1
  funext L
  cases ho : p.op with
  | true => rw [List.filter_cons_of_pos (by exact ho), List.filter_cons_of_pos (by exact ho), List.foldlM_cons, List.foldlM_cons, step_rev]
  | false => rw [List.filter_cons_of_neg (by rw [rev_op, ho]; simp), List.filter_cons_of_neg (by rw [ho]; simp)]
theorem turn_valid (V : Valid N) : Valid (turnN N i p) := by
  refine ⟨V.b2, V.b6, V.n1, V.n24, by rw [turn_len2 hp]; exact V.len, fun q hq => ?_, by rw [turn_trees hp]; exact V.tree⟩
  obtain ⟨j, hj⟩ := List.getElem?_of_mem hq
  rw [turn_at hp] at hj
  split at hj
  · have := V.ok p (List.mem_of_getElem? hp)
    cases hj
    exact ⟨this.t, this.s, fun z => this.ne z.symm, this.lo, this.lh, this.hi, this.me⟩
  · exact V.ok q (List.mem_of_getElem? hj)
theorem turn_clo_sub (V : Valid N) {o : Option Nat} {x : Nat} (hx : x < N.n) : ∀ y ∈ clo (turnN N i p) o x, y ∈ clo N o x := by
  refine clo_all (T := fun y => y ∈ clo N o x) (fun a ha h1 h2 => ?_) clo_self
  rcases turn_mem hp ha with ⟨c1, c2⟩ | ⟨c1, c2⟩
  · have := clo_shut V hx (o := o) (a := (p, i)) (en_mem hp) (by rw [← c1]; exact h1) (by rw [c2, rev_op] at h2; exact h2)
    rw [c2]; exact this.symm
  · exact clo_shut V hx c2 h1 h2
theorem turn_back : (turnN (turnN N i p) i p.rev) = N := by
  have h2 : (turnN N i p).ps[i]? = some p.rev := by rw [turn_at hp, if_pos rfl]
  have : (turnN (turnN N i p) i p.rev).ps = N.ps := by
    apply List.ext_getElem?
    intro j
    rw [turn_at h2, turn_at hp]
    by_cases c : j = i
    · subst c; rw [if_pos rfl, hp]; rfl
    · rw [if_neg c, if_neg c]
  cases N
  simp only [turnN] at this ⊢
  rw [this]
theorem turn_clo (V : Valid N) {o : Option Nat} {x : Nat} (hx : x < N.n) (y : Nat) : y ∈ clo (turnN N i p) o x ↔ y ∈ clo N o x := by
  refine ⟨turn_clo_sub hp V hx y, fun h => ?_⟩
  have h2 : (turnN N i p).ps[i]? = some p.rev := by rw [turn_at hp, if_pos rfl]
  have := turn_clo_sub (N := turnN N i p) h2 (turn_valid hp V) (o := o) (x := x) hx y
  rw [turn_back hp] at this
  exact this h
theorem turn_totI (ho : p.op = true) (A : List Nat) : totI (turnN N i p) A = totI N A := by
  rw [totI_cut, totI_cut]
  unfold cut
  congr 1
  have hi := (List.getElem?_eq_some_iff.mp hp).1
  apply List.ext_getElem?
  intro j
  rw [List.getElem?_map, List.getElem?_map, List.getElem?_zipIdx, List.getElem?_zipIdx, turn_at hp]
  by_cases c : j = i
  · subst c
    have e1 : cvI (turnN N j p) (0 + j) = 0 := by
      unfold cvI; rw [Nat.zero_add, turn_at hp, if_pos rfl]; show cval _ p.rev = 0; unfold cval; rw [if_pos (by rw [rev_op]; exact ho)]
    have e2 : cvI N (0 + j) = 0 := by
      unfold cvI; rw [Nat.zero_add, hp]; show cval _ p = 0; unfold cval; rw [if_pos ho]
    rw [if_pos rfl, hp]
    simp only [Option.map_some, e1, e2, Int.zero_mul]
  · rw [if_neg c]
    cases hj : N.ps[j]? with
    | none => rfl
    | some q =>
      have e1 : cvI (turnN N i p) (0 + j) = cvI N (0 + j) := by
        unfold cvI; rw [Nat.zero_add, turn_at hp, if_neg c]; rfl
      simp only [Option.map_some, e1]
theorem turn_even (V : Valid N) (E : Even N) (ho : p.op = true) : Even (turnN N i p) := by
  intro x hx
  rw [turn_totI hp ho, totI_cut, cut_sets (turn_clo hp V hx), ← totI_cut]
  exact E x hx
theorem turn_res (V : Valid N) (E : Even N) (ho : p.op = true) : resL (turnN N i p) = (resL N).take i ++ [(0 - resV N (p, i)) % N.b] ++ (resL N).drop (i + 1) := by
  have hi := (List.getElem?_eq_some_iff.mp hp).1
  have ht : ∀ A, tot (turnN N i p) A = tot N A := fun A => by unfold tot; rw [turn_totI hp ho]; rfl
  apply List.ext_getElem?
  intro j
  have e1 : (resL (turnN N i p))[j]? = ((turnN N i p).ps[j]?).map fun q => resV (turnN N i p) (q, j) := by
    unfold resL; rw [List.getElem?_map, List.getElem?_zipIdx]; simp [Option.map_map, Function.comp_def]
  have e2 : ∀ j, (resL N)[j]? = (N.ps[j]?).map fun q => resV N (q, j) := fun j => by
    unfold resL; rw [List.getElem?_map, List.getElem?_zipIdx]; simp [Option.map_map, Function.comp_def]
  have hlen : (resL N).length = N.ps.length := by simp [resL]
  rw [e1, turn_at hp]
  by_cases c : j = i
  · subst c
    have hr : resV (turnN N j p) (p.rev, j) = (0 - resV N (p, j)) % N.b := by
      rw [resV_open (by exact ho), ht]
      show tot N (clo (turnN N j p) (some j) p.t) = _
      rw [tot_sets (turn_clo hp V (V.endsE (en_mem hp)).2)]
      exact (other_side V E (en_mem hp) ho).1
    rw [if_pos rfl, Option.map_some, hr, List.getElem?_append_left (by simp; omega), List.getElem?_append_right (by simp; omega), List.length_take, hlen, Nat.min_eq_left (by omega)]
    simp
  · have hr : ∀ q, N.ps[j]? = some q → resV (turnN N i p) (q, j) = resV N (q, j) := fun q hq => by
      cases hq' : q.op with
      | true =>
        rw [resV_open (by exact hq'), resV_open (by exact hq'), ht]
        exact tot_sets (turn_clo hp V (V.endsE (en_mem hq)).1)
      | false => rw [resV_shut (by exact hq'), resV_shut (by exact hq')]; rfl
    rw [if_neg c]
    have hl : (Option.map (fun q => resV (turnN N i p) (q, j)) N.ps[j]?) = (resL N)[j]? := by
      rw [e2]
      cases hq : N.ps[j]? with
      | none => rfl
      | some q => simp only [Option.map_some, hr q hq]
    rw [hl]
    by_cases c2 : j < i
    · rw [List.getElem?_append_left (by simp; omega), List.getElem?_append_left (by simp; omega), List.getElem?_take, if_pos c2]
    · rw [List.getElem?_append_right (by simp; omega)]
      simp only [List.length_append, List.length_take, List.length_cons, List.length_nil, hlen, Nat.min_eq_left (show i ≤ N.ps.length by omega)]
      rw [List.getElem?_drop, show i + 1 + (j - (i + (0 + 1))) = j by omega]
end

/-! ## nets without a wrong cluster; nets with a flow -/
theorem sorted_eq : ∀ {A B : List Nat}, A.Pairwise (· < ·) → B.Pairwise (· < ·) → (∀ x, x ∈ A ↔ x ∈ B) → A = B
  | [], [], _, _, _ => rfl
  | [], y :: B, _, _, h => by have := (h y).mpr (by simp); simp at this
  | x :: A, [], _, _, h => by have := (h x).mp (by simp); simp at this
  | x :: A, y :: B, hA, hB, h => by
    rw [List.pairwise_cons] at hA hB
    have e : x = y := by
      have h1 := (h x).mp (by simp)
      have h2 := (h y).mpr (by simp)
      rcases List.mem_cons.mp h1 with h1 | h1
      · exact h1
      · rcases List.mem_cons.mp h2 with h2 | h2
        · exact h2.symm
        · have := hA.1 y h2
          have := hB.1 x h1
          omega
    subst e
    rw [sorted_eq hA.2 hB.2 fun z => ?_]
    have hz := h z
    constructor
    · intro m
      rcases List.mem_cons.mp (hz.mp (by simp [m])) with q | q
      · have := hA.1 z m; omega
      · exact q
    · intro m
      rcases List.mem_cons.mp (hz.mpr (by simp [m])) with q | q
      · have := hB.1 z m; omega
      · exact q
theorem sortN_lt {f : List Nat} (nd : f.Nodup) : (sortN f).Pairwise (· < ·) := by
  have k2 : (sortN f).Pairwise (fun a b => decide (a ≤ b) = true) := List.pairwise_mergeSort (by intro a b c; simp; omega) (by intro a b; simp; omega) _
  have k1 : (sortN f).Nodup := (List.mergeSort_perm f _).nodup_iff.mpr nd
  rw [List.Nodup] at k1
  exact (k1.and k2).imp fun h => by
    obtain ⟨h1, h2⟩ := h
    simp at h2
    omega
theorem even_of_wrong {N : Net} (V : Valid N) (h : wrongL N = []) : Even N := by
  intro x hx
  have h1 := clo_ok V (o := none) hx
  have h2 := sortN_lt h1.nd
  have hne : clus N x ≠ [] := fun z => by
    have : x ∈ clus N x := mem_sortN.mpr clo_self
    rw [z] at this; simp at this
  obtain ⟨y, ys, hy⟩ := List.exists_cons_of_ne_nil hne
  have hyc : y ∈ clo N none x := mem_sortN.mp (by rw [show sortN (clo N none x) = clus N x from rfl, hy]; simp)
  have hyn := h1.lt y hyc
  have hs := clo_eq V hx hyc
  have e : clus N y = clus N x := sorted_eq (sortN_lt (clo_ok V hyn).nd) h2 fun z => mem_sortN.trans ((hs z).trans mem_sortN.symm)
  have hm : clus N y ∈ clusL N := List.mem_map_of_mem (List.mem_filter.mpr ⟨List.mem_range.mpr hyn, by rw [e, hy]; simp⟩)
  have h3 : tot N (clus N y) = 0 := by
    by_cases c : tot N (clus N y) = 0
    · exact c
    · have : clus N y ∈ wrongL N := List.mem_filter.mpr ⟨hm, by simp [c]⟩
      rw [h] at this; simp at this
  have h4 : tot N (clo N none x) = 0 := by rw [← h3, e]; exact tot_sort.symm
  exact Int.dvd_of_emod_eq_zero h4
theorem even_of_flow {N : Net} (V : Valid N) {c : Nat → Int} (hc : ∀ x, cut (enP N.ps) c [x] = 0) (hm : ∀ a ∈ enP N.ps, a.1.op = false → c a.2 % N.b = shown N.b a.1) : Even N := by
  intro x hx
  have h0 : (0 : Int) ∣ cut (enP N.ps) c (clo N none x) := cut_dvd fun y _ => by rw [hc]; exact Int.dvd_zero _
  have h1 := Int.zero_dvd.mp h0
  rw [totI_cut]
  have h2 : N.b ∣ cut (enP N.ps) (cvI N) (clo N none x) - cut (enP N.ps) c (clo N none x) := cut_mod fun a ha => by
    cases ho : a.1.op with
    | true =>
      rw [ind_congr (clo_shut V hx ha (by simp) ho)]; simp
    | false =>
      rw [← Int.sub_mul]
      refine Int.dvd_mul_of_dvd_left ?_
      rw [en_cv ha, cval_shut ho, ← hm a ha ho]
      have := Int.dvd_neg.mpr (dvd_mod N.b (c a.2))
      rw [show c a.2 % N.b - c a.2 = -(c a.2 - c a.2 % N.b) by omega]
      exact this
  rw [h1] at h2
  simpa using h2
end Fw

set_option maxRecDepth 100000
set_option maxHeartbeats 4000000
namespace Fw
open PySem PySem.Spec PyProof.Rows L2

/-! ## rings of roads -/
theorem nodup_at' {α : Type} {m : List α} (nd : m.Nodup) {i j : Nat} {a : α} (h1 : m[i]? = some a) (h2 : m[j]? = some a) : i = j := by
  obtain ⟨p1, e1⟩ := List.getElem?_eq_some_iff.mp h1
  obtain ⟨p2, e2⟩ := List.getElem?_eq_some_iff.mp h2
  exact (List.getElem_inj nd).mp (e1.trans e2.symm)
theorem perm_map {α β : Type} (f : α → β) {ys : List β} {zs : List β} (h : ys.Perm zs) : ∀ {xs : List α}, zs = xs.map f → ∃ us : List α, us.Perm xs ∧ ys = us.map f := by
  induction h with
  | nil => intro xs e; exact ⟨[], by cases xs <;> simp at e ⊢, rfl⟩
  | cons x h ih =>
    intro xs e
    cases xs with
    | nil => simp at e
    | cons a xs =>
      simp at e
      obtain ⟨us, h1, h2⟩ := ih e.2
      exact ⟨a :: us, h1.cons a, by simp [h2, e.1]⟩
  | swap x y l =>
    intro xs e
    match xs, e with
    | a :: b :: xs, e =>
      simp at e
      exact ⟨b :: a :: xs, List.Perm.swap .., by simp [e]⟩
  | trans h1 h2 ih1 ih2 =>
    intro xs e
    obtain ⟨us, p1, e1⟩ := ih2 e
    obtain ⟨vs, p2, e2⟩ := ih1 e1
    exact ⟨vs, p2.trans p1, e2⟩
def turnL (l : List Nat) : List Nat := l.drop 1 ++ l.take 1
def arcsOf (l : List Nat) : List (Nat × Nat) := l.zip (turnL l)
theorem turn_len (l : List Nat) : (turnL l).length = l.length := by
  cases l <;> simp [turnL]
theorem zipW_nats : ∀ (xs ys : List Nat), zipW (nW xs) (nW ys) = (xs.zip ys).map arcW
  | [], _ => by simp [zipW]
  | x :: xs, [] => by simp [zipW]
  | x :: xs, y :: ys => by
    simp only [List.map_cons, zipW, List.zip_cons_cons]
    exact congrArg _ (zipW_nats xs ys)
theorem flA_zip (p : Nat) : ∀ (xs ys : List Nat), xs.length = ys.length → flA (xs.zip ys) p = (ys.map fun y => one y p).sum - (xs.map fun x => one x p).sum
  | [], [], _ => rfl
  | [], y :: ys, h => by simp at h
  | x :: xs, [], h => by simp at h
  | x :: xs, y :: ys, h => by
    have := flA_zip p xs ys (by simpa using h)
    unfold flA at this ⊢
    simp only [List.zip_cons_cons, List.map_cons, List.sum_cons, this]
    omega
theorem arcs_flow (l : List Nat) (p : Nat) : flA (arcsOf l) p = 0 := by
  unfold arcsOf
  rw [flA_zip p l _ (turn_len l).symm]
  cases l with
  | nil => rfl
  | cons x xs =>
    simp [turnL]
    omega
theorem arcs_ok {l : List Nat} {many : Nat} (nd : l.Nodup) (hl : 2 ≤ l.length) (hm : ∀ x ∈ l, x < many) : ∀ a ∈ arcsOf l, a.1 < many ∧ a.2 < many ∧ a.1 ≠ a.2 := by
  intro a ha
  obtain ⟨i, hi⟩ := List.getElem?_of_mem ha
  unfold arcsOf at hi
  rw [List.getElem?_zip_eq_some] at hi
  obtain ⟨h1, h2⟩ := hi
  have hx := List.mem_of_getElem? h1
  have hy : a.2 ∈ l := by
    have := List.mem_of_getElem? h2
    unfold turnL at this
    rcases List.mem_append.mp this with h | h
    · exact List.mem_of_mem_drop h
    · exact List.mem_of_mem_take h
  refine ⟨hm _ hx, hm _ hy, fun e => ?_⟩
  have hil := (List.getElem?_eq_some_iff.mp h1).1
  unfold turnL at h2
  by_cases hlast : i + 1 < l.length
  · rw [List.getElem?_append_left (by simp; omega), List.getElem?_drop] at h2
    rw [show 1 + i = i + 1 by omega] at h2
    rw [← e] at h2
    have := nodup_at' nd h1 h2
    omega
  · rw [List.getElem?_append_right (by simp; omega)] at h2
    have e1 : i - (l.drop 1).length = 0 := by simp; omega
    rw [e1, List.getElem?_take] at h2
    simp only [Nat.lt_add_one, if_true] at h2
    rw [← e] at h2
    have := nodup_at' nd h1 h2
    omega
end Fw

set_option maxRecDepth 100000
set_option maxHeartbeats 4000000
namespace Fw
open PySem PySem.Spec PyProof.Rows L2
theorem add_lst {xs ys : List W} {s : S} {q : QW} : oAdd (.lst xs) (.lst ys) s q = (xs.length + ys.length ≤ sizeLine ∧ q (.lst (xs ++ ys)) s) := propext ⟨fun h => h, fun h => h⟩
theorem rangeL_nats (n : Nat) : rangeL 0 (n : Int) = nW (List.range n) := by
  unfold rangeL
  rw [show ((n : Int) - 0).toNat = n by omega]
  exact rangeW_map n
theorem cut_to' {xs : List W} {i : Int} (h0 : 0 ≤ i) (h : i ≤ xs.length) : cutW xs none (some i) = xs.take i.toNat := by
  have := cut_to (xs := xs) (i := i.toNat) (by omega)
  rw [show ((i.toNat : Nat) : Int) = i by omega] at this
  exact this
theorem ring_loop {s : S} {n many : Nat} {c : Cn} {x3 x4 x13 : Option W} {base : Int} (hn : n < s.length) (b2 : 2 ≤ base) (b6 : base ≤ 1000000) (hm2 : 2 ≤ many) (hm : many ≤ 24) : ∀ (ks : List Nat) (ts : List Tube) (B : Int) (b : Nat) (x6 x7 x8 x9 x10 x11 x12 : Option W),
    (∀ t ∈ ts, TOk many B t) → (∀ p, fl ts p = 0) → 0 ≤ B → 40 * ks.length ≤ b → ts.length + 4 * ks.length ≤ 490 →
    (∀ ts' b' x6 x7 x8 x9 x10 x11 x12, (∀ t ∈ ts', TOk many (B + 40000000 * ks.length) t) → (∀ p, fl ts' p = 0) → ts'.length ≤ ts.length + 4 * ks.length → b ≤ b' + 40 * ks.length → b' ≤ b →
      c.nx [some (.ref n), some (.int many), some (.int base), x3, x4, some (.ref (s.length + 0)), x6, x7, x8, x9, x10, x11, x12, x13] (s.set n (.orc b') ++ tJ s.length ts' [])) →
    forL (.nm 6) (t_law_tubes_b2 sp_law_mixed_up sp_law_draw sp_law_amount) [] (nW ks) [some (.ref n), some (.int many), some (.int base), x3, x4, some (.ref (s.length + 0)), x6, x7, x8, x9, x10, x11, x12, x13] (s.set n (.orc b) ++ tJ s.length ts []) c
  | [], ts, B, b, x6, x7, x8, x9, x10, x11, x12, ht, hf, _, _, _, h => ⟨fun _ h => by simp at h, h ts b x6 x7 x8 x9 x10 x11 x12 (by simpa using ht) hf (by simp) (by simp) (Nat.le_refl _)⟩
  | k :: ks, ts, B, b, x6, x7, x8, x9, x10, x11, x12, ht, hf, hB, hb, hl, h => by
    refine ⟨fun _ h => by simp at h, ?_⟩
    have hb' : 40 * (ks.length + 1) ≤ b := by simpa using hb
    have hl' : ts.length + 4 * (ks.length + 1) ≤ 490 := by simpa using hl
    simp only [asg, List.set_cons_succ, List.set_cons_zero]
    generalize hcc : Cn.mk _ _ _ _ _ = c'
    simp only [↓u_fnM, ↓u_mSeq, ↓u_mIfS, ↓u_mRet, ↓u_mRetN, ↓u_mSet, ↓u_mExpr, ↓u_mVar, ↓u_mK, ↓u_mBin, ↓u_mUn, ↓u_mChain, ↓u_mT, ↓u_mAnd, ↓u_mOr, ↓u_mNot, ↓u_bAnd, ↓u_bOr, ↓u_bNot, ↓u_mIf, ↓u_mFn, ↓u_mTup, ↓u_mLst, ↓u_mNew, ↓u_mCons, ↓u_mNil, ↓u_mCall, ↓u_mNext, ↓u_mAsg, ↓u_mFor, ↓u_mComp, ↓u_mCompN, ↓u_iSeqM, ↓u_mEnum, ↓u_mZip, ↓u_mPar2, ↓u_mPar3, ↓u_mPut, ↓u_mAug, ↓u_mAugS, ↓u_mBM, ↓u_mBM0, ↓u_mCallK, ↓u_mListRg, ↓u_mListRgN, ↓u_mTupRg, ↓u_mRg1, ↓u_mRg2, ↓u_iRngM1, ↓u_iRngM2, ↓u_pAt, ↓u_pNo, ↓u_mIsi, ↓u_mNever, ↓u_gtTp, ↓u_gtCons, ↓u_gtNil, ↓u_gtNm, ↓u_gtSub, ↓u_mBreak, ↓u_mCont, ↓u_mDisp, ↓u_bYes, ↓u_oI, ↓u_oB, ↓u_oIs, ↓u_oEqT, ↓u_seqT, ↓u_seqL, ↓u_seqS, ↓mSl_eq, slW_tup, slW_lst, List.map_cons, List.map_nil, List.length_cons, List.length_nil, List.cons_append, List.nil_append, List.getElem?_cons_zero, List.getElem?_cons_succ, List.set_cons_zero, List.set_cons_succ, List.replicate, Nat.reduceAdd, Nat.reduceSub, Nat.zero_add, if_true, Bool.false_eq_true, if_false, Bool.true_eq_false, reduceIte, t_law_tubes_b2, add_int]
    refine ⟨⟨by omega, by omega, by omega, by omega, by omega⟩, ?_⟩
    rw [rangeL_nats]
    refine ⟨trivial, n, b, _, nW (List.range many), rfl, rfl, orc_get hn, by simp; omega, by simp; omega, fun x hx s' => ?_, fun ys hp => ?_⟩
    · obtain ⟨i, _, rfl⟩ := List.mem_map.mp hx
      exact .int
    obtain ⟨zs, hz, rfl⟩ := perm_map (fun (i : Nat) => W.int (i : Int)) hp (xs := List.range many) rfl
    have hzl : zs.length = many := by rw [hz.length_eq]; simp
    rw [orc_set hn, List.length_map, List.length_range]
    have hmin : ∀ (st : S) (q : QW), q (.int (if (many : Int) - 1 < 3 then (many : Int) - 1 else 3)) st → oMin [.int 3, .int ((many : Int) - 1)] st q := fun st q hq => hq
    refine ⟨trivial, hmin _ _ ⟨trivial, n, b - many - 1, _, rfl, by rw [orc_get hn]; congr 2; omega, by split <;> omega, by unfold Bd; split <;> omega, fun v v0 v1 => ?_⟩⟩
    rw [orc_set hn]
    have hv : 2 + v ≤ many ∧ 2 + v ≤ 4 := by split at v1 <;> omega
    simp only [slW_lst, add_int]
    rw [cut_to' (by omega) (by simp; omega), ← List.map_take]
    generalize hroad : zs.take (2 + v).toNat = road
    have hrl : road.length = (2 + v).toNat := by rw [← hroad, List.length_take, hzl]; omega
    have hnd : road.Nodup := by rw [← hroad]; exact (hz.nodup_iff.mpr List.nodup_range).sublist (List.take_sublist _ _)
    have hlt : ∀ x ∈ road, x < many := fun x hx => by
      rw [← hroad] at hx
      exact List.mem_range.mp (hz.mem_iff.mp (List.mem_of_mem_take hx))
    refine ⟨trivial, n, b - many - 5, base, rfl, by rw [orc_get hn]; congr 2; omega, b2, b6, fun amt a0 a1 => ?_⟩
    rw [orc_set hn]
    have c1 : cutW (nW road) (some 1) none = nW (road.drop 1) := (cut_from (xs := nW road) (i := 1) (by rw [List.length_map]; omega)).trans List.map_drop.symm
    have c2 : cutW (nW road) none (some 1) = nW (road.take 1) := (cut_to (xs := nW road) (i := 1) (by rw [List.length_map]; omega)).trans List.map_take.symm
    simp only [c1, c2, add_lst]
    refine ⟨by simp only [List.length_map, List.length_drop, List.length_take]; exact leW _ (by omega), ?_⟩
    simp only [seqVals, itemsOf, ← List.map_append, liveOf]
    rw [show road.drop 1 ++ road.take 1 = turnL road from rfl, zipW_nats]
    refine arc_loop (amt := amt) hn a0 a1 (arcsOf road) ts B (b - many - 5) x9 x10 x11 x12 (arcs_ok hnd (by omega) hlt) ht hB (by simp [arcsOf, turn_len]; omega) (by simp [arcsOf, turn_len]; omega) fun ts' b' x9 x10 x11 x12 g1 g2 g3 g4 g5 => ?_
    have hal : (arcsOf road).length ≤ 4 := by simp [arcsOf, turn_len]; omega
    subst hcc
    refine ring_loop hn b2 b6 hm2 hm ks ts' (B + 40000000) b' _ _ _ x9 x10 x11 x12 (fun t hm => (g1 t hm).mono (by omega)) (fun p => by rw [g2, hf, arcs_flow]; simp) (by omega) (by omega) (by omega) fun us b'' y6 y7 y8 y9 y10 y11 y12 f1 f2 f3 f4 f5 => ?_
    exact h us b'' y6 y7 y8 y9 y10 y11 y12 (fun t hm => (f1 t hm).mono (by simp; omega)) f2 (by simp; omega) (by simp; omega) (by omega)
end Fw

set_option maxRecDepth 100000
set_option maxHeartbeats 4000000
namespace Fw
open PySem PySem.Spec PyProof.Rows L2

/-! ## _law_tubes -/
theorem tJ_more {L : Nat} {ts fz : List Tube} {t : Tube} : (tJ L ts fz).set 0 (.lst ((rfs L ts.length ++ fz.map tW) ++ [tW t])) = tJ L ts (fz ++ [t]) := by
  unfold tJ
  simp
theorem more_loop {s : S} {n many : Nat} {c : Cn} {x2 x3 x4 x7 x8 x9 x10 x11 x12 : Option W} (hn : n < s.length) (hm2 : 2 ≤ many) (hm : many ≤ 24) {ts : List Tube} : ∀ (ks : List Nat) (fz : List Tube) (b : Nat) (x6 x13 : Option W),
    (∀ t ∈ fz, TOk many 0 t) → 24 * ks.length ≤ b → ts.length + fz.length + ks.length ≤ 490 →
    (∀ fz' b' x6 x13, (∀ t ∈ fz', TOk many 0 t) → fz'.length = fz.length + ks.length → b ≤ b' + 24 * ks.length → b' ≤ b →
      c.nx [some (.ref n), some (.int many), x2, x3, x4, some (.ref (s.length + 0)), x6, x7, x8, x9, x10, x11, x12, x13] (s.set n (.orc b') ++ tJ s.length ts fz')) →
    forL (.nm 6) (t_law_tubes_b3 sp_law_mixed_up sp_law_draw sp_law_amount) [] (nW ks) [some (.ref n), some (.int many), x2, x3, x4, some (.ref (s.length + 0)), x6, x7, x8, x9, x10, x11, x12, x13] (s.set n (.orc b) ++ tJ s.length ts fz) c
  | [], fz, b, x6, x13, hf, _, _, h => ⟨fun _ h => by simp at h, h fz b x6 x13 hf (by simp) (by simp) (Nat.le_refl _)⟩
  | k :: ks, fz, b, x6, x13, hf, hb, hl, h => by
    refine ⟨fun _ h => by simp at h, ?_⟩
    have hb' : 24 * (ks.length + 1) ≤ b := by simpa using hb
    have hl' : ts.length + fz.length + (ks.length + 1) ≤ 490 := by simpa using hl
    simp only [asg, List.set_cons_succ, List.set_cons_zero]
    generalize hcc : Cn.mk _ _ _ _ _ = c'
    simp only [↓u_fnM, ↓u_mSeq, ↓u_mIfS, ↓u_mRet, ↓u_mRetN, ↓u_mSet, ↓u_mExpr, ↓u_mVar, ↓u_mK, ↓u_mBin, ↓u_mUn, ↓u_mChain, ↓u_mT, ↓u_mAnd, ↓u_mOr, ↓u_mNot, ↓u_bAnd, ↓u_bOr, ↓u_bNot, ↓u_mIf, ↓u_mFn, ↓u_mTup, ↓u_mLst, ↓u_mNew, ↓u_mCons, ↓u_mNil, ↓u_mCall, ↓u_mNext, ↓u_mAsg, ↓u_mFor, ↓u_mComp, ↓u_mCompN, ↓u_iSeqM, ↓u_mEnum, ↓u_mZip, ↓u_mPar2, ↓u_mPar3, ↓u_mPut, ↓u_mAug, ↓u_mAugS, ↓u_mBM, ↓u_mBM0, ↓u_mCallK, ↓u_mListRg, ↓u_mListRgN, ↓u_mTupRg, ↓u_mRg1, ↓u_mRg2, ↓u_iRngM1, ↓u_iRngM2, ↓u_pAt, ↓u_pNo, ↓u_mIsi, ↓u_mNever, ↓u_gtTp, ↓u_gtCons, ↓u_gtNil, ↓u_gtNm, ↓u_gtSub, ↓u_mBreak, ↓u_mCont, ↓u_mDisp, ↓u_bYes, ↓u_oI, ↓u_oB, ↓u_oIs, ↓u_oEqT, ↓u_seqT, ↓u_seqL, ↓u_seqS, ↓mSl_eq, slW_tup, slW_lst, List.map_cons, List.map_nil, List.length_cons, List.length_nil, List.cons_append, List.nil_append, List.getElem?_cons_zero, List.getElem?_cons_succ, List.set_cons_zero, List.set_cons_succ, List.replicate, Nat.reduceAdd, Nat.reduceSub, Nat.zero_add, if_true, Bool.false_eq_true, if_false, Bool.true_eq_false, reduceIte, t_law_tubes_b3, add_int]
    refine ⟨⟨by omega, by omega, by omega, by omega, by omega⟩, ?_⟩
    rw [rangeL_nats]
    refine ⟨trivial, n, b, _, nW (List.range many), rfl, rfl, orc_get hn, by simp; omega, by simp; omega, fun x hx s' => ?_, fun ys hp => ?_⟩
    · obtain ⟨i, _, rfl⟩ := List.mem_map.mp hx
      exact .int
    obtain ⟨zs, hz, rfl⟩ := perm_map (fun (i : Nat) => W.int (i : Int)) hp (xs := List.range many) rfl
    have hzl : zs.length = many := by rw [hz.length_eq]; simp
    rw [orc_set hn, List.length_map, List.length_range]
    simp only [slW_lst]
    rw [cut_to' (by omega) (by simp; omega), ← List.map_take]
    have hA : (s.set n (.orc (b - many))).length = s.length := by simp
    match zs, hzl with
    | [], e => simp at e; omega
    | [_], e => simp at e; omega
    | i :: j :: zs, e =>
      have hnd : (i :: j :: zs).Nodup := hz.nodup_iff.mpr List.nodup_range
      have hi : i < many := List.mem_range.mp (hz.mem_iff.mp (by simp))
      have hj : j < many := List.mem_range.mp (hz.mem_iff.mp (by simp))
      have hij : i ≠ j := fun z => by rw [z] at hnd; simp at hnd
      refine ⟨isLst_at (i := 0) (xs := rfs s.length ts.length ++ fz.map tW) hA rfl, by show 1 ≤ sizeLine; decide, ?_⟩
      simp only [add_lst]
      refine ⟨by show 2 + 1 ≤ sizeLine; decide, ?_⟩
      refine append_at (i := 0) (xs := rfs s.length ts.length ++ fz.map tW) hA rfl (by simp [rfs, sizeLine_eq]; omega) ?_
      have e1 : (tJ s.length ts fz).set 0 (.lst ((rfs s.length ts.length ++ fz.map tW) ++ [tW ⟨i, j, 0⟩])) = tJ s.length ts (fz ++ [⟨i, j, 0⟩]) := tJ_more
      have := more_loop (s := s) (n := n) (many := many) (c := c) (x2 := x2) (x3 := x3) (x4 := x4) (x7 := x7) (x8 := x8) (x9 := x9) (x10 := x10) (x11 := x11) (x12 := x12) hn hm2 hm ks (fz ++ [⟨i, j, 0⟩]) (b - many) (some (.int (k : Int))) (some (.lst (nW [i, j]))) (fun t ht => by
        rcases List.mem_append.mp ht with ht | ht
        · exact hf t ht
        · simp at ht; subst ht; exact ⟨hi, hj, hij, Int.le_refl _, Int.le_refl _⟩) (by omega) (by simp; omega) fun fz' b' x6 x13 g1 g2 g3 g4 => h fz' b' x6 x13 g1 (by simp at g2 ⊢; omega) (by simp; omega) (by omega)
      rw [← e1] at this
      subst hcc
      exact this
theorem sum_perm {xs ys : List Int} (h : xs.Perm ys) : xs.sum = ys.sum := by
  induction h with
  | nil => rfl
  | cons x _ ih => simp [ih]
  | swap x y l => simp; omega
  | trans _ _ h1 h2 => rw [h1, h2]
theorem fl_perm {ts us : List Tube} (h : ts.Perm us) (p : Nat) : fl ts p = fl us p := by
  unfold fl
  exact sum_perm (h.map _)
theorem fl_zero {ts : List Tube} (h : ∀ t ∈ ts, t.c = 0) (p : Nat) : fl ts p = 0 := by
  unfold fl
  induction ts with
  | nil => rfl
  | cons t ts ih =>
    rw [List.map_cons, List.sum_cons, ih fun u hu => h u (by simp [hu]), h t (by simp)]; simp
/-- the tubes of a heap, frozen -/
theorem frz_tubes {A : S} {L k : Nat} {ts fz : List Tube} (hL : A.length = L) (hk : k ≤ L) : ∀ (is : List Nat), (∀ i ∈ is, i < ts.length) → Frzs k (A ++ tJ L ts fz) (is.map fun i => W.ref (L + (1 + i))) (is.map fun i => tW (ts.getD i ⟨0, 0, 0⟩))
  | [], _ => .nil
  | i :: is, h => by
    have hi := h i (by simp)
    have ht : ts[i]? = some ts[i] := List.getElem?_eq_getElem hi
    have hc : (A ++ tJ L ts fz)[L + (1 + i)]? = some (.lst ((tuI ts[i]).map W.int)) := by
      have := cell_at (s := A) (tJ_at (L := L) (fz := fz) ht)
      rw [hL] at this; exact this
    refine .cons ?_ (frz_tubes hL hk is fun j hj => h j (by simp [hj]))
    have e : ts.getD i ⟨0, 0, 0⟩ = ts[i] := by rw [List.getD_eq_getElem?_getD, ht]; rfl
    show Frz k _ (W.ref (L + (1 + i))) (tW (ts.getD i ⟨0, 0, 0⟩))
    rw [e]
    exact .new (by omega) hc (frz_ints _)
theorem frz_fz {k : Nat} {s : S} : ∀ fz : List Tube, Frzs k s (fz.map tW) (fz.map tW)
  | [] => .nil
  | t :: fz => .cons (.lst (frz_ints _)) (frz_fz fz)
theorem Frzs.app {k : Nat} {s : S} : ∀ {xs ys us vs : List W}, Frzs k s xs ys → Frzs k s us vs → Frzs k s (xs ++ us) (ys ++ vs)
  | _, _, _, _, .nil, h => h
  | _, _, _, _, .cons a t, h => .cons a (Frzs.app t h)
theorem Frzs.perm {k : Nat} {s : S} {xs xs' : List W} (p : xs'.Perm xs) : ∀ {ys : List W}, Frzs k s xs ys → ∃ ys', ys'.Perm ys ∧ Frzs k s xs' ys' := by
  induction p with
  | nil => intro ys h; exact ⟨ys, .refl _, h⟩
  | cons x p ih =>
    intro ys h
    cases h with
    | cons a t =>
      obtain ⟨ys', p', f⟩ := ih t
      exact ⟨_, p'.cons _, .cons a f⟩
  | swap x y l =>
    intro ys h
    cases h with
    | cons a t =>
      cases t with
      | cons b t => exact ⟨_, List.Perm.swap .., .cons b (.cons a t)⟩
  | trans p1 p2 ih1 ih2 =>
    intro ys h
    obtain ⟨y1, q1, f1⟩ := ih2 h
    obtain ⟨y2, q2, f2⟩ := ih1 f1
    exact ⟨y2, q2.trans q1, f2⟩
def sp_law_tubes : FT := fun ws s q _ => ∃ (n b rings more many : Nat) (base : Int), ws = [.ref n, .int (many : Nat), .int base, .int (rings : Nat), .int (more : Nat)] ∧ s[n]? = some (.orc (b + (44 * rings + 25 * more))) ∧ 1 ≤ many ∧ many ≤ 24 ∧ 2 ≤ base ∧ base ≤ 1000000 ∧ rings ≤ 20 ∧ more ≤ 20 ∧
  ∀ us : List Tube, (∀ t ∈ us, TOk many 1000000000 t) → (∀ p, fl us p = 0) → us.length ≤ 4 * rings + more → q (.lst (us.map tW)) (s.set n (.orc b))
theorem old_all {L k : Nat} {s : S} (hk : ∀ i, i < k → L + (1 + i) < s.length) {fz : List Tube} : ∀ x ∈ rfs L k ++ fz.map tW, ∀ s', Frz s.length s' x x := by
  intro x hx s'
  rcases List.mem_append.mp hx with hx | hx
  · obtain ⟨i, hi, rfl⟩ := List.mem_map.mp hx
    exact .old (hk i (List.mem_range.mp hi))
  · obtain ⟨t, _, rfl⟩ := List.mem_map.mp hx
    exact .lst (frz_ints _)
theorem ok_law_tubes : ∀ ws s q e, sp_law_tubes ws s q e → gc (fnM 14 (t_law_tubes sp_law_mixed_up sp_law_draw sp_law_amount)) ws s q e := by
  rintro ws s q e ⟨n, b, rings, more, many, base, rfl, hn, m1, m24, b2, b6, hr, hm, h⟩
  have hlt := (List.getElem?_eq_some_iff.mp hn).1
  show fnM 14 (t_law_tubes sp_law_mixed_up sp_law_draw sp_law_amount) _ s _ _
  simp only [↓u_fnM, ↓u_mSeq, ↓u_mIfS, ↓u_mRet, ↓u_mRetN, ↓u_mSet, ↓u_mExpr, ↓u_mVar, ↓u_mK, ↓u_mBin, ↓u_mUn, ↓u_mChain, ↓u_mT, ↓u_mAnd, ↓u_mOr, ↓u_mNot, ↓u_bAnd, ↓u_bOr, ↓u_bNot, ↓u_mIf, ↓u_mFn, ↓u_mTup, ↓u_mLst, ↓u_mNew, ↓u_mCons, ↓u_mNil, ↓u_mCall, ↓u_mNext, ↓u_mAsg, ↓u_mFor, ↓u_mComp, ↓u_mCompN, ↓u_iSeqM, ↓u_mEnum, ↓u_mZip, ↓u_mPar2, ↓u_mPar3, ↓u_mPut, ↓u_mAug, ↓u_mAugS, ↓u_mBM, ↓u_mBM0, ↓u_mCallK, ↓u_mListRg, ↓u_mListRgN, ↓u_mTupRg, ↓u_mRg1, ↓u_mRg2, ↓u_iRngM1, ↓u_iRngM2, ↓u_pAt, ↓u_pNo, ↓u_mIsi, ↓u_mNever, ↓u_gtTp, ↓u_gtCons, ↓u_gtNil, ↓u_gtNm, ↓u_gtSub, ↓u_mBreak, ↓u_mCont, ↓u_mDisp, ↓u_bYes, ↓u_oI, ↓u_oB, ↓u_oIs, ↓u_oEqT, ↓u_seqT, ↓u_seqL, ↓u_seqS, ↓mSl_eq, slW_tup, slW_lst, List.map_cons, List.map_nil, List.length_cons, List.length_nil, List.cons_append, List.nil_append, List.getElem?_cons_zero, List.getElem?_cons_succ, List.set_cons_zero, List.set_cons_succ, List.replicate, Nat.reduceAdd, Nat.reduceSub, Nat.zero_add, if_true, Bool.false_eq_true, if_false, Bool.true_eq_false, reduceIte, t_law_tubes, u_oB]
  refine ⟨by show 0 ≤ sizeLine; omega, ?_⟩
  have e0 : s ++ [Cell.lst []] = s.set n (.orc (b + (44 * rings + 25 * more))) ++ tJ s.length [] [] := by rw [orc_same hn]; rfl
  rw [e0]
  -- the last part: the tubes in another order
  have fin : ∀ (ts fz : List Tube) (b' : Nat) (x6 x7 x8 x9 x10 x11 x12 x13 : Option W), (∀ t ∈ ts, TOk many 1000000000 t) → (∀ p, fl ts p = 0) → (∀ t ∈ fz, TOk many 0 t) → ts.length ≤ 4 * rings → fz.length ≤ more → b + 4 * rings + more ≤ b' →
      sp_law_mixed_up [.ref n, .ref (s.length + 0)] (s.set n (.orc b') ++ tJ s.length ts fz) (gcQ s q) (gcX s e) := by
    intro ts fz b' x6 x7 x8 x9 x10 x11 x12 x13 h1 h2 h3 h4 h5 h6
    have hA : (s.set n (.orc b')).length = s.length := by simp
    refine ⟨n, b', _, rfs s.length ts.length ++ fz.map tW, rfl, itemsOf_at (i := 0) hA rfl, orc_get hlt, by simp [rfs]; omega, by simp [rfs]; omega, ?_, fun ys hp => ?_⟩
    · refine old_all fun i hi => ?_
      simp [tJ]; omega
    · rw [orc_set hlt]
      have hA2 : ∀ j, (s.set n (.orc j)).length = s.length := by simp
      have f0 : Frzs s.length (s.set n (.orc (b' - (rfs s.length ts.length ++ fz.map tW).length)) ++ tJ s.length ts fz) (rfs s.length ts.length ++ fz.map tW) (((List.range ts.length).map fun i => tW (ts.getD i ⟨0, 0, 0⟩)) ++ fz.map tW) :=
        (frz_tubes (hA2 _) (Nat.le_refl _) (List.range ts.length) fun i hi => List.mem_range.mp hi).app (frz_fz fz)
      have e1 : ((List.range ts.length).map fun i => tW (ts.getD i ⟨0, 0, 0⟩)) = ts.map tW := by
        apply List.ext_getElem
        · simp
        · intro i g1 g2
          simp at g1 g2
          simp [List.getElem?_eq_getElem g1]
      rw [e1, ← List.map_append] at f0
      obtain ⟨ys', p', f⟩ := f0.perm hp
      obtain ⟨us, hu, rfl⟩ := perm_map tW p' (xs := ts ++ fz) rfl
      refine gcQ.draw hn ?_ (.lst f) (h us (fun t ht => ?_) (fun p => ?_) ?_)
      · simp [rfs]; omega
      · rcases List.mem_append.mp (hu.mem_iff.mp ht) with ht | ht
        · exact h1 t ht
        · exact (h3 t ht).mono (by omega)
      · rw [fl_perm hu, fl_app, h2, fl_zero fun t ht => ?_]; rfl
        have := h3 t ht
        have := this.c0
        have := (h3 t ht).cB
        omega
      · rw [hu.length_eq, List.length_append]; omega
  by_cases hmany : 1 < (many : Int)
  · simp only [hmany, decide_true, if_true]
    refine ⟨⟨by omega, by omega⟩, ?_⟩
    rw [show ((rings : Int)).toNat = rings by omega, rangeW_map]
    refine ring_loop hlt b2 b6 (by omega) m24 (List.range rings) [] 0 _ none none none none none none none (by simp) (fun p => rfl) (Int.le_refl _) (by simp; omega) (by simp; omega) fun ts b1 x6 x7 x8 x9 x10 x11 x12 g1 g2 g3 g4 g5 => ?_
    simp only [List.length_range, List.length_nil] at g1 g3 g4
    simp only [↓u_fnM, ↓u_mSeq, ↓u_mIfS, ↓u_mRet, ↓u_mRetN, ↓u_mSet, ↓u_mExpr, ↓u_mVar, ↓u_mK, ↓u_mBin, ↓u_mUn, ↓u_mChain, ↓u_mT, ↓u_mAnd, ↓u_mOr, ↓u_mNot, ↓u_bAnd, ↓u_bOr, ↓u_bNot, ↓u_mIf, ↓u_mFn, ↓u_mTup, ↓u_mLst, ↓u_mNew, ↓u_mCons, ↓u_mNil, ↓u_mCall, ↓u_mNext, ↓u_mAsg, ↓u_mFor, ↓u_mComp, ↓u_mCompN, ↓u_iSeqM, ↓u_mEnum, ↓u_mZip, ↓u_mPar2, ↓u_mPar3, ↓u_mPut, ↓u_mAug, ↓u_mAugS, ↓u_mBM, ↓u_mBM0, ↓u_mCallK, ↓u_mListRg, ↓u_mListRgN, ↓u_mTupRg, ↓u_mRg1, ↓u_mRg2, ↓u_iRngM1, ↓u_iRngM2, ↓u_pAt, ↓u_pNo, ↓u_mIsi, ↓u_mNever, ↓u_gtTp, ↓u_gtCons, ↓u_gtNil, ↓u_gtNm, ↓u_gtSub, ↓u_mBreak, ↓u_mCont, ↓u_mDisp, ↓u_bYes, ↓u_oI, ↓u_oB, ↓u_oIs, ↓u_oEqT, ↓u_seqT, ↓u_seqL, ↓u_seqS, ↓mSl_eq, slW_tup, slW_lst, List.map_cons, List.map_nil, List.length_cons, List.length_nil, List.cons_append, List.nil_append, List.getElem?_cons_zero, List.getElem?_cons_succ, List.set_cons_zero, List.set_cons_succ, List.replicate, Nat.reduceAdd, Nat.reduceSub, Nat.zero_add, if_true, Bool.false_eq_true, if_false, Bool.true_eq_false, reduceIte, u_oB, hmany, decide_true, if_true]
    refine ⟨⟨by omega, by omega⟩, ?_⟩
    rw [show ((more : Int)).toNat = more by omega, rangeW_map]
    refine more_loop hlt (by omega) m24 (List.range more) [] b1 _ none (by simp) (by simp; omega) (by simp; omega) fun fz b2 x6 x13 k1 k2 k3 k4 => ?_
    simp only [List.length_range, List.length_nil] at k2 k3
    simp only [↓u_fnM, ↓u_mSeq, ↓u_mIfS, ↓u_mRet, ↓u_mRetN, ↓u_mSet, ↓u_mExpr, ↓u_mVar, ↓u_mK, ↓u_mBin, ↓u_mUn, ↓u_mChain, ↓u_mT, ↓u_mAnd, ↓u_mOr, ↓u_mNot, ↓u_bAnd, ↓u_bOr, ↓u_bNot, ↓u_mIf, ↓u_mFn, ↓u_mTup, ↓u_mLst, ↓u_mNew, ↓u_mCons, ↓u_mNil, ↓u_mCall, ↓u_mNext, ↓u_mAsg, ↓u_mFor, ↓u_mComp, ↓u_mCompN, ↓u_iSeqM, ↓u_mEnum, ↓u_mZip, ↓u_mPar2, ↓u_mPar3, ↓u_mPut, ↓u_mAug, ↓u_mAugS, ↓u_mBM, ↓u_mBM0, ↓u_mCallK, ↓u_mListRg, ↓u_mListRgN, ↓u_mTupRg, ↓u_mRg1, ↓u_mRg2, ↓u_iRngM1, ↓u_iRngM2, ↓u_pAt, ↓u_pNo, ↓u_mIsi, ↓u_mNever, ↓u_gtTp, ↓u_gtCons, ↓u_gtNil, ↓u_gtNm, ↓u_gtSub, ↓u_mBreak, ↓u_mCont, ↓u_mDisp, ↓u_bYes, ↓u_oI, ↓u_oB, ↓u_oIs, ↓u_oEqT, ↓u_seqT, ↓u_seqL, ↓u_seqS, ↓mSl_eq, slW_tup, slW_lst, List.map_cons, List.map_nil, List.length_cons, List.length_nil, List.cons_append, List.nil_append, List.getElem?_cons_zero, List.getElem?_cons_succ, List.set_cons_zero, List.set_cons_succ, List.replicate, Nat.reduceAdd, Nat.reduceSub, Nat.zero_add, if_true, Bool.false_eq_true, if_false, Bool.true_eq_false, reduceIte]
    refine ⟨trivial, fin ts fz b2 x6 x7 x8 x9 x10 x11 x12 x13 (fun t ht => (g1 t ht).mono (by omega)) g2 k1 (by omega) (by omega) (by omega)⟩
  · simp only [hmany, decide_false, Bool.false_eq_true, if_false]
    refine ⟨⟨by omega, by omega⟩, ⟨fun _ h => by simp at h, ?_⟩⟩
    simp only [↓u_fnM, ↓u_mSeq, ↓u_mIfS, ↓u_mRet, ↓u_mRetN, ↓u_mSet, ↓u_mExpr, ↓u_mVar, ↓u_mK, ↓u_mBin, ↓u_mUn, ↓u_mChain, ↓u_mT, ↓u_mAnd, ↓u_mOr, ↓u_mNot, ↓u_bAnd, ↓u_bOr, ↓u_bNot, ↓u_mIf, ↓u_mFn, ↓u_mTup, ↓u_mLst, ↓u_mNew, ↓u_mCons, ↓u_mNil, ↓u_mCall, ↓u_mNext, ↓u_mAsg, ↓u_mFor, ↓u_mComp, ↓u_mCompN, ↓u_iSeqM, ↓u_mEnum, ↓u_mZip, ↓u_mPar2, ↓u_mPar3, ↓u_mPut, ↓u_mAug, ↓u_mAugS, ↓u_mBM, ↓u_mBM0, ↓u_mCallK, ↓u_mListRg, ↓u_mListRgN, ↓u_mTupRg, ↓u_mRg1, ↓u_mRg2, ↓u_iRngM1, ↓u_iRngM2, ↓u_pAt, ↓u_pNo, ↓u_mIsi, ↓u_mNever, ↓u_gtTp, ↓u_gtCons, ↓u_gtNil, ↓u_gtNm, ↓u_gtSub, ↓u_mBreak, ↓u_mCont, ↓u_mDisp, ↓u_bYes, ↓u_oI, ↓u_oB, ↓u_oIs, ↓u_oEqT, ↓u_seqT, ↓u_seqL, ↓u_seqS, ↓mSl_eq, slW_tup, slW_lst, List.map_cons, List.map_nil, List.length_cons, List.length_nil, List.cons_append, List.nil_append, List.getElem?_cons_zero, List.getElem?_cons_succ, List.set_cons_zero, List.set_cons_succ, List.replicate, Nat.reduceAdd, Nat.reduceSub, Nat.zero_add, if_true, Bool.false_eq_true, if_false, Bool.true_eq_false, reduceIte, u_oB, hmany, decide_false, Bool.false_eq_true, if_false]
    refine ⟨⟨by omega, by omega⟩, ⟨fun _ h => by simp at h, ?_⟩⟩
    simp only [↓u_fnM, ↓u_mSeq, ↓u_mIfS, ↓u_mRet, ↓u_mRetN, ↓u_mSet, ↓u_mExpr, ↓u_mVar, ↓u_mK, ↓u_mBin, ↓u_mUn, ↓u_mChain, ↓u_mT, ↓u_mAnd, ↓u_mOr, ↓u_mNot, ↓u_bAnd, ↓u_bOr, ↓u_bNot, ↓u_mIf, ↓u_mFn, ↓u_mTup, ↓u_mLst, ↓u_mNew, ↓u_mCons, ↓u_mNil, ↓u_mCall, ↓u_mNext, ↓u_mAsg, ↓u_mFor, ↓u_mComp, ↓u_mCompN, ↓u_iSeqM, ↓u_mEnum, ↓u_mZip, ↓u_mPar2, ↓u_mPar3, ↓u_mPut, ↓u_mAug, ↓u_mAugS, ↓u_mBM, ↓u_mBM0, ↓u_mCallK, ↓u_mListRg, ↓u_mListRgN, ↓u_mTupRg, ↓u_mRg1, ↓u_mRg2, ↓u_iRngM1, ↓u_iRngM2, ↓u_pAt, ↓u_pNo, ↓u_mIsi, ↓u_mNever, ↓u_gtTp, ↓u_gtCons, ↓u_gtNil, ↓u_gtNm, ↓u_gtSub, ↓u_mBreak, ↓u_mCont, ↓u_mDisp, ↓u_bYes, ↓u_oI, ↓u_oB, ↓u_oIs, ↓u_oEqT, ↓u_seqT, ↓u_seqL, ↓u_seqS, ↓mSl_eq, slW_tup, slW_lst, List.map_cons, List.map_nil, List.length_cons, List.length_nil, List.cons_append, List.nil_append, List.getElem?_cons_zero, List.getElem?_cons_succ, List.set_cons_zero, List.set_cons_succ, List.replicate, Nat.reduceAdd, Nat.reduceSub, Nat.zero_add, if_true, Bool.false_eq_true, if_false, Bool.true_eq_false, reduceIte]
    refine ⟨trivial, fin [] [] _ none none none none none none none none (by simp) (fun p => rfl) (by simp) (by simp) (by simp) (by omega)⟩
end Fw

set_option maxRecDepth 100000
set_option maxHeartbeats 4000000
namespace Fw
open PySem PySem.Spec PyProof.Rows L2

/-! ## the law's union-find -/
theorem root_succ (T : List Nat) (k x : Nat) : rootN T (k + 1) x = rootN T k (lb T x) := rfl
theorem root_fix {T : List Nat} {x : Nat} (h : lb T x = x) : ∀ k, rootN T k x = x
  | 0 => rfl
  | k + 1 => by rw [root_succ, h]; exact root_fix h k
theorem root_low {T : List Nat} {n : Nat} (h : ∀ x, x < n → lb T x ≤ x) : ∀ k x, x < n → (lb T (rootN T k x) = rootN T k x ∨ rootN T k x + k ≤ x) ∧ rootN T k x ≤ x
  | 0, x, hx => ⟨.inr (by simp [rootN]), Nat.le_refl _⟩
  | k + 1, x, hx => by
    have h1 := h x hx
    obtain ⟨h2, h3⟩ := root_low h k (lb T x) (by omega)
    rw [root_succ]
    by_cases c : lb T x = x
    · rw [c, root_fix c]; exact ⟨.inl c, Nat.le_refl _⟩
    · exact ⟨h2.imp id fun z => by omega, by omega⟩
theorem root_end {T : List Nat} {n : Nat} (h : ∀ x, x < n → lb T x ≤ x) {x : Nat} (hx : x < n) : lb T (rootN T n x) = rootN T n x ∧ rootN T n x < n := by
  obtain ⟨h1, h2⟩ := root_low h n x hx
  refine ⟨h1.resolve_right fun z => by omega, by omega⟩
theorem root_snoc (T : List Nat) : ∀ k x, rootN T (k + 1) x = lb T (rootN T k x)
  | 0, x => rfl
  | k + 1, x => by rw [root_succ, root_snoc T k (lb T x), ← root_succ]
theorem root_step {T : List Nat} {n : Nat} (h : ∀ x, x < n → lb T x ≤ x) {x : Nat} (hx : x < n) : rootN T n (lb T x) = rootN T n x := by
  rw [← root_succ, root_snoc, (root_end h hx).1]
structure UF (n : Nat) (T L : List Nat) : Prop where
  tl : T.length = n
  ll : L.length = n
  le : ∀ x, x < n → lb T x ≤ x
  rt : ∀ x, x < n → rootN T n x = lb L x
theorem UF.start (n : Nat) : UF n (List.range n) (List.range n) := by
  have h : ∀ x, x < n → lb (List.range n) x = x := fun x hx => by unfold lb; rw [List.getElem?_range hx]; rfl
  exact ⟨by simp, by simp, fun x hx => by rw [h x hx]; exact Nat.le_refl _, fun x hx => by rw [root_fix (h x hx), h x hx]⟩
theorem UF.all {n : Nat} {T L : List Nat} (h : UF n T L) : ∀ x ∈ T, x < T.length := by
  intro x hx
  obtain ⟨i, hi⟩ := List.getElem?_of_mem hx
  have hl := (List.getElem?_eq_some_iff.mp hi).1
  have := h.le i (by rw [← h.tl]; exact hl)
  unfold lb at this
  rw [hi] at this
  simp at this
  omega
theorem UF.join {n : Nat} {T L M : List Nat} {p : Pipe} (h : UF n T L) (e : treesStep L p = some M) : UF n (T.set (max (lb L p.s) (lb L p.t)) (min (lb L p.s) (lb L p.t))) M := by
  obtain ⟨hs, ht, hne, hl, hM⟩ := step_some e
  rw [h.ll] at hs ht hM hl
  have ra := root_end h.le hs
  have rb := root_end h.le ht
  rw [h.rt _ hs] at ra
  rw [h.rt _ ht] at rb
  generalize lb L p.s = a at *
  generalize lb L p.t = b at *
  have hset : ∀ x, lb (T.set (max a b) (min a b)) x = if x = max a b then min a b else lb T x := fun x => by
    unfold lb
    by_cases c : max a b = x
    · subst c
      rw [List.getElem?_set_self (by rw [h.tl]; omega), if_pos rfl]; rfl
    · rw [List.getElem?_set_ne c, if_neg (fun z => c z.symm)]
  have le' : ∀ x, x < n → lb (T.set (max a b) (min a b)) x ≤ x := fun x hx => by
    rw [hset]; split
    · omega
    · exact h.le x hx
  have hlo : lb T (min a b) = min a b := by
    rcases Nat.le_total a b with c | c
    · rw [Nat.min_eq_left c]; exact ra.1
    · rw [Nat.min_eq_right c]; exact rb.1
  have hlo' : lb (T.set (max a b) (min a b)) (min a b) = min a b := by rw [hset, if_neg (by omega), hlo]
  have hhi : lb T (max a b) = max a b := by
    rcases Nat.le_total a b with c | c
    · rw [Nat.max_eq_right c]; exact rb.1
    · rw [Nat.max_eq_left c]; exact ra.1
  have key : ∀ x, x < n → rootN (T.set (max a b) (min a b)) n x = if rootN T n x = max a b then min a b else rootN T n x := by
    intro x
    induction x using Nat.strongRecOn with
    | _ x ih =>
      intro hx
      by_cases c : x = max a b
      · subst c
        rw [← root_step le' hx, hset, if_pos rfl, root_fix hlo', root_fix hhi, if_pos rfl]
      · have e1 : lb (T.set (max a b) (min a b)) x = lb T x := by rw [hset, if_neg c]
        by_cases c2 : lb T x = x
        · rw [root_fix (by rw [e1, c2]), root_fix c2, if_neg c]
        · have := h.le x hx
          rw [← root_step le' hx, e1, ih _ (by omega) (by omega), root_step h.le hx]
  refine ⟨by rw [List.length_set]; exact h.tl, by rw [hl], le', fun x hx => ?_⟩
  rw [key x hx, hM x hx, h.rt x hx]
  by_cases c1 : lb L x = a
  · have c3 : lb L x = a ∨ lb L x = b := .inl c1
    simp only [if_pos c3]; rw [c1]; split <;> omega
  · by_cases c2 : lb L x = b
    · have c3 : lb L x = a ∨ lb L x = b := .inr c2
      simp only [if_pos c3]; rw [c2]; split <;> omega
    · have c3 : ¬ (lb L x = a ∨ lb L x = b) := by simp [c1, c2]
      simp only [if_neg c3]; rw [if_neg (by omega)]

/-! ## drawn networks -/
def tubeOf (a : Pipe × Int) : Tube := ⟨a.1.s, a.1.t, a.2⟩
/-- a pipe and a count that fits it -/
structure PC (b : Int) (n : Nat) (a : Pipe × Int) : Prop where
  ok : OkPipe b n a.1
  lo : a.1.lo ≤ a.2
  hi : a.2 ≤ a.1.hi
  me : ∀ x, a.1.me = some x → a.2 % b = x
structure Drawn (N : Net) (as : List (Pipe × Int)) : Prop where
  ps : N.ps = as.map (·.1)
  valid : Valid N
  pc : ∀ a ∈ as, PC N.b N.n a
  fl : ∀ x, fl (as.map tubeOf) x = 0
theorem PC.shown {b : Int} {n : Nat} {a : Pipe × Int} (h : PC b n a) (o : a.1.op = false) : a.2 % b = shown b a.1 := by
  unfold Fw.shown
  cases hm : a.1.me with
  | some x => exact h.me x hm
  | none =>
    have h1 := h.lo
    have h2 := h.hi
    unfold Pipe.op at o
    rw [hm] at o
    simp at o
    have : a.2 = a.1.lo := by omega
    rw [this]
def cntI (as : List (Pipe × Int)) (i : Nat) : Int := match as[i]? with
  | some a => a.2
  | none => 0
theorem cut_fl {as : List (Pipe × Int)} (x : Nat) : cut (enP (as.map (·.1))) (cntI as) [x] = fl (as.map tubeOf) x := by
  unfold cut fl
  congr 1
  apply List.ext_getElem?
  intro j
  rw [List.getElem?_map, List.getElem?_zipIdx, List.getElem?_map, List.getElem?_map, List.getElem?_map]
  cases h : as[j]? with
  | none => rfl
  | some a =>
    simp only [Option.map_some]
    have : cntI as (0 + j) = a.2 := by unfold cntI; rw [Nat.zero_add, h]
    rw [this, ← one_ind, ← one_ind]
    rfl
theorem Drawn.even {N : Net} {as : List (Pipe × Int)} (D : Drawn N as) : Even N := by
  refine even_of_flow D.valid (c := cntI as) (fun x => ?_) fun a ha ho => ?_
  · rw [D.ps, cut_fl, D.fl]
  · have h1 := en_get ha
    rw [D.ps, List.getElem?_map] at h1
    obtain ⟨c, hc, e⟩ := Option.map_eq_some_iff.mp h1
    have : cntI as a.2 = c.2 := by unfold cntI; rw [hc]
    rw [this, ← e]
    exact (D.pc c (List.mem_of_getElem? hc)).shown (by rw [e]; exact ho)
end Fw

set_option maxRecDepth 100000
set_option maxHeartbeats 4000000
namespace Fw
open PySem PySem.Spec PyProof.Rows L2

/-! ## _law_net -/
def nJ (T : List Nat) (as : List (Pipe × Int)) : S := [.lst (nW T), .lst (as.map fun a => pW a.1), .lst (as.map fun a => W.int a.2)]
theorem max_int {i j : Int} {s : S} {q : QW} : oMax [.int i, .int j] s q = q (.int (if j > i then j else i)) s := propext ⟨fun h => h, fun h => h⟩
theorem min_int {i j : Int} {s : S} {q : QW} : oMin [.int i, .int j] s q = q (.int (if j < i then j else i)) s := propext ⟨fun h => h, fun h => h⟩
theorem put_at {A J : S} {L i j : Nat} {xs : List W} {y : W} {q : S → Prop} (hL : A.length = L) (h : J[i]? = some (.lst xs)) (hj : j < xs.length) (k : q (A ++ J.set i (.lst (xs.set j y)))) : oPut (.ref (L + i)) (.int (j : Int)) y (A ++ J) q := by
  unfold oPut
  rw [cellL_at hL h]
  have e : ixN xs.length (j : Int) = some j := by
    unfold ixN
    rw [if_pos (by omega), if_pos (by omega)]; simp
  simp only [e]
  subst hL
  rw [cell_set]
  exact k
theorem net_loop {s : S} {n many : Nat} {c : Cn} {x2 x3 : Option W} {base : Int} (hn : n < s.length) (b2 : 2 ≤ base) (b6 : base ≤ 1000000) (m24 : many ≤ 24) : ∀ (us : List Tube) (T L : List Nat) (as : List (Pipe × Int)) (b : Nat) (x8 x9 x10 x11 x12 x13 x14 x15 x16 : Option W),
    (∀ u ∈ us, TOk many 1000000000 u) → UF many T L → treesOf many ((as.map (·.1)).filter Pipe.op) = some L → (∀ a ∈ as, PC base many a) → 10 * us.length ≤ b → as.length + us.length ≤ 60 →
    (∀ T L as' b' x8 x9 x10 x11 x12 x13 x14 x15 x16, treesOf many ((as'.map (·.1)).filter Pipe.op) = some L → (∀ a ∈ as', PC base many a) → as'.map tubeOf = as.map tubeOf ++ us → b ≤ b' + 10 * us.length → b' ≤ b →
      c.nx [some (.ref n), some (.int many), x2, x3, some (.int base), some (.ref (s.length + 0)), some (.ref (s.length + 1)), some (.ref (s.length + 2)), x8, x9, x10, x11, x12, x13, x14, x15, x16] (s.set n (.orc b') ++ nJ T as')) →
    forL (.tp [.nm 8, .nm 9, .nm 10]) (t_law_net_b1 sp_law_base sp_law_tubes sp_law_amount sp_law_root sp_law_draw) [] (us.map tW) [some (.ref n), some (.int many), x2, x3, some (.int base), some (.ref (s.length + 0)), some (.ref (s.length + 1)), some (.ref (s.length + 2)), x8, x9, x10, x11, x12, x13, x14, x15, x16] (s.set n (.orc b) ++ nJ T as) c
  | [], T, L, as, b, x8, x9, x10, x11, x12, x13, x14, x15, x16, _, uf, ht, hp, _, _, h => ⟨fun _ h => by simp at h, h T L as b x8 x9 x10 x11 x12 x13 x14 x15 x16 ht hp (by simp) (by simp) (Nat.le_refl _)⟩
  | u :: us, T, L, as, b, x8, x9, x10, x11, x12, x13, x14, x15, x16, hu, uf, ht, hp, hb, hl, h => by
    refine ⟨fun _ h => by simp at h, ?_⟩
    have hb' : 10 * (us.length + 1) ≤ b := by simpa using hb
    have hl' : as.length + (us.length + 1) ≤ 60 := by simpa using hl
    have hu0 := hu u (by simp)
    have u1 := hu0.s
    have u2 := hu0.t
    have u3 := hu0.ne
    have u4 := hu0.c0
    have u5 := hu0.cB
    have hgo : ∀ (p : Pipe) (T' L' : List Nat) (b1 : Nat) (x8 x9 x10 x11 x12 x13 x14 x15 x16 : Option W), PC base many (p, u.c) → p.s = u.s → p.t = u.t → UF many T' L' → treesOf many ((as.map (·.1)).filter Pipe.op ++ [p].filter Pipe.op) = some L' → b ≤ b1 + 10 → b1 ≤ b →
        forL (.tp [.nm 8, .nm 9, .nm 10]) (t_law_net_b1 sp_law_base sp_law_tubes sp_law_amount sp_law_root sp_law_draw) [] (us.map tW) [some (.ref n), some (.int many), x2, x3, some (.int base), some (.ref (s.length + 0)), some (.ref (s.length + 1)), some (.ref (s.length + 2)), x8, x9, x10, x11, x12, x13, x14, x15, x16] (s.set n (.orc b1) ++ [.lst (nW T'), .lst ((as.map fun a => pW a.1) ++ [pW p]), .lst ((as.map fun a => W.int a.2) ++ [.int u.c])]) c := by
      intro p T' L' b1 x8 x9 x10 x11 x12 x13 x14 x15 x16 h1 h2 h3 h4 h5 h6 h7
      have := net_loop (s := s) (n := n) (many := many) (c := c) (x2 := x2) (x3 := x3) hn b2 b6 m24 us T' L' (as ++ [(p, u.c)]) b1 x8 x9 x10 x11 x12 x13 x14 x15 x16 (fun v hv => hu v (by simp [hv])) h4 (by rw [List.map_append, List.filter_append]; exact h5) (fun a ha => by
        rcases List.mem_append.mp ha with ha | ha
        · exact hp a ha
        · simp at ha; subst ha; exact h1) (by omega) (by simp; omega) fun T L as' b' x8 x9 x10 x11 x12 x13 x14 x15 x16 k1 k2 k3 k4 k5 => h T L as' b' x8 x9 x10 x11 x12 x13 x14 x15 x16 k1 k2 (by
          rw [k3, List.map_append, List.append_assoc]
          have : tubeOf (p, u.c) = u := by unfold tubeOf; simp only [h2, h3]
          simp [this]) (by simp; omega) (by omega)
      simpa [nJ] using this
    simp only [asg, asgs, itemsOf, tW, tuI, List.map_cons, List.map_nil, List.length_cons, List.length_nil, if_true, List.set_cons_succ, List.set_cons_zero]
    generalize hcc : Cn.mk _ _ _ _ _ = c'
    have hA : ∀ j, (s.set n (.orc j)).length = s.length := by simp
    simp only [↓u_fnM, ↓u_mSeq, ↓u_mIfS, ↓u_mRet, ↓u_mRetN, ↓u_mSet, ↓u_mExpr, ↓u_mVar, ↓u_mK, ↓u_mBin, ↓u_mUn, ↓u_mChain, ↓u_mT, ↓u_mAnd, ↓u_mOr, ↓u_mNot, ↓u_bAnd, ↓u_bOr, ↓u_bNot, ↓u_mIf, ↓u_mFn, ↓u_mTup, ↓u_mLst, ↓u_mNew, ↓u_mCons, ↓u_mNil, ↓u_mCall, ↓u_mNext, ↓u_mAsg, ↓u_mFor, ↓u_mComp, ↓u_mCompN, ↓u_iSeqM, ↓u_mEnum, ↓u_mZip, ↓u_mPar2, ↓u_mPar3, ↓u_mPut, ↓u_mAug, ↓u_mAugS, ↓u_mBM, ↓u_mBM0, ↓u_mCallK, ↓u_mListRg, ↓u_mListRgN, ↓u_mTupRg, ↓u_mRg1, ↓u_mRg2, ↓u_iRngM1, ↓u_iRngM2, ↓u_pAt, ↓u_pNo, ↓u_mIsi, ↓u_mNever, ↓u_gtTp, ↓u_gtCons, ↓u_gtNil, ↓u_gtNm, ↓u_gtSub, ↓u_mBreak, ↓u_mCont, ↓u_mDisp, ↓u_bYes, ↓u_oI, ↓u_oB, ↓u_oIs, ↓u_oEqT, ↓u_seqT, ↓u_seqL, ↓u_seqS, ↓mSl_eq, slW_tup, slW_lst, List.map_cons, List.map_nil, List.length_cons, List.length_nil, List.cons_append, List.nil_append, List.getElem?_cons_zero, List.getElem?_cons_succ, List.set_cons_zero, List.set_cons_succ, List.replicate, Nat.reduceAdd, Nat.reduceSub, Nat.zero_add, if_true, Bool.false_eq_true, if_false, Bool.true_eq_false, reduceIte, t_law_net_b1, add_int, max_int, min_int]
    refine ⟨trivial, n, b - 4, base, rfl, by rw [orc_get hn]; congr 2; omega, b2, b6, fun v1 p1 q1 => ?_⟩
    rw [orc_set hn]
    refine ⟨trivial, trivial, n, b - 8, base, rfl, by rw [orc_get hn]; congr 2; omega, b2, b6, fun v2 p2 q2 => ?_⟩
    rw [orc_set hn]
    show oAdd (W.int u.c) (.int v2) _ _
    simp only [add_int]
    refine ⟨by omega, trivial, .ref (s.length + 0), T, u.s, rfl, itemsOf_at (i := 0) (hA _) rfl, by rw [uf.tl]; omega, uf.all, by rw [uf.tl]; exact u1, ?_⟩
    refine ⟨trivial, .ref (s.length + 0), T, u.t, rfl, itemsOf_at (i := 0) (hA _) rfl, by rw [uf.tl]; omega, uf.all, by rw [uf.tl]; exact u2, ?_⟩
    rw [uf.tl, uf.rt _ u1, uf.rt _ u2]
    refine ⟨trivial, n, b - 9, 5, rfl, by rw [orc_get hn]; congr 2; omega, by omega, by unfold Bd; decide, fun v w0 w1 => ?_⟩
    rw [orc_set hn]
    obtain ⟨low, hlow⟩ : ∃ low : Int, low = (if (fun x1 x2 => x1 - x2) u.c v1 > 0 then (fun x1 x2 => x1 - x2) u.c v1 else 0) := ⟨_, rfl⟩
    have l0 : 0 ≤ low ∧ low ≤ u.c := by
      rw [hlow]; split <;> rename_i z <;> simp only [] at z ⊢ <;> omega
    rw [← hlow]
    obtain ⟨l0, l1⟩ := l0
    have m0 : 0 ≤ u.c % base ∧ u.c % base < base := ⟨Int.emod_nonneg _ (by omega), Int.emod_lt_of_pos _ (by omega)⟩
    have fin : ∀ (p : Pipe) (T' L' : List Nat) (b1 : Nat) (x8 x9 x10 x11 x12 x13 x14 x15 x16 : Option W), PC base many (p, u.c) → p.s = u.s → p.t = u.t → UF many T' L' → treesOf many ((as.map (·.1)).filter Pipe.op ++ [p].filter Pipe.op) = some L' → b ≤ b1 + 10 → b1 ≤ b →
        isLst (W.ref (s.length + 1)) (s.set n (.orc b1) ++ nJ T' as) = true ∧ 5 ≤ sizeLine ∧ oAppend (W.ref (s.length + 1)) [pW p] (s.set n (.orc b1) ++ nJ T' as) (fun _ s' => isLst (W.ref (s.length + 2)) s' = true ∧ oAppend (W.ref (s.length + 2)) [W.int u.c] s' (fun _ s' =>
          c'.nx [some (.ref n), some (.int many), x2, x3, some (.int base), some (.ref (s.length + 0)), some (.ref (s.length + 1)), some (.ref (s.length + 2)), x8, x9, x10, x11, x12, x13, x14, x15, x16] s')) := by
      intro p T' L' b1 x8 x9 x10 x11 x12 x13 x14 x15 x16 h1 h2 h3 h4 h5 h6 h7
      refine ⟨isLst_at (i := 1) (xs := as.map fun a => pW a.1) (hA _) rfl, by show 5 ≤ sizeLine; decide, ?_⟩
      refine append_at (i := 1) (xs := as.map fun a => pW a.1) (hA _) rfl (by simp [sizeLine_eq]; omega) ?_
      refine ⟨isLst_at (i := 2) (xs := as.map fun a => W.int a.2) (hA _) rfl, ?_⟩
      refine append_at (i := 2) (xs := as.map fun a => W.int a.2) (hA _) rfl (by simp [sizeLine_eq]; omega) ?_
      subst hcc
      exact hgo p T' L' b1 x8 x9 x10 x11 x12 x13 x14 x15 x16 h1 h2 h3 h4 h5 h6 h7
    have cls : ∀ p : Pipe, p.op = false → treesOf many ((as.map (·.1)).filter Pipe.op ++ [p].filter Pipe.op) = some L := fun p ho => by
      rw [List.filter_cons_of_neg (by rw [ho]; simp), List.filter_nil, List.append_nil]; exact ht
    simp only [u_oB, eq_int, Bool.false_bne, Bool.true_bne]
    have okp : ∀ (lo hi : Int) (me : Option Int), 0 ≤ lo → lo ≤ u.c → u.c ≤ hi → hi ≤ u.c + 10000000 → (∀ x, me = some x → u.c % base = x) → PC base many (⟨u.s, u.t, lo, hi, me⟩, u.c) := fun lo hi me h1 h2 h3 h4 h5 =>
      ⟨⟨u1, u2, u3, h1, by show lo ≤ hi; omega, by show hi ≤ 1000000000000; omega, fun x hx => by have := h5 x hx; omega⟩, h2, h3, h5⟩
    -- a closed pipe with a meter
    have two : ∀ (x14 x15 x16 : Option W), ¬ v = 4 → isLst (W.ref (s.length + 1)) (s.set n (.orc (b - 9)) ++ nJ T as) = true ∧ 5 ≤ sizeLine ∧ oAppend (W.ref (s.length + 1)) [pW ⟨u.s, u.t, low, u.c + v2, some (u.c % base)⟩] (s.set n (.orc (b - 9)) ++ nJ T as) (fun _ s' => isLst (W.ref (s.length + 2)) s' = true ∧ oAppend (W.ref (s.length + 2)) [W.int u.c] s' (fun _ s' =>
          c'.nx [some (.ref n), some (.int many), x2, x3, some (.int base), some (.ref (s.length + 0)), some (.ref (s.length + 1)), some (.ref (s.length + 2)), some (.int (u.s : Int)), some (.int (u.t : Int)), some (.int u.c), some (.int low), some (.int (u.c + v2)), some (.int (u.c % base)), x14, x15, x16] s')) := fun x14 x15 x16 _ =>
      fin _ T L (b - 9) _ _ _ _ _ _ _ _ _ (okp _ _ _ l0 l1 (by omega) (by omega) (fun x hx => Option.some.inj hx)) rfl rfl uf (cls _ rfl) (by omega) (by omega)
    have thr : ∀ (x11 x12 x13 x14 x15 x16 : Option W), (2 ≤ sizeLine ∧ True ∧ sp_law_draw [W.ref n, W.int 2] (s.set n (.orc (b - 9)) ++ nJ T as) (fun y s2 => oIx (W.lst [W.int (u.c % base), W.non]) y s2 fun w s1 =>
        isLst (W.ref (s.length + 1)) s1 = true ∧ 5 ≤ sizeLine ∧ oAppend (W.ref (s.length + 1)) [.tup [.int (u.s : Int), .int (u.t : Int), .int u.c, .int u.c, w]] s1 (fun _ s' => isLst (W.ref (s.length + 2)) s' = true ∧ oAppend (W.ref (s.length + 2)) [W.int u.c] s' (fun _ s' =>
          c'.nx [some (.ref n), some (.int many), x2, x3, some (.int base), some (.ref (s.length + 0)), some (.ref (s.length + 1)), some (.ref (s.length + 2)), some (.int (u.s : Int)), some (.int (u.t : Int)), some (.int u.c), some (.int u.c), some (.int u.c), some w, x14, x15, x16] s'))) (fun k fs s' => c'.ex k fs [some (W.ref n), some (W.int ↑many), x2, x3, some (W.int base), some (W.ref (s.length + 0)), some (W.ref (s.length + 1)), some (W.ref (s.length + 2)), some (W.int ↑u.s), some (W.int ↑u.t), some (W.int u.c), some (.int low), some (.int (u.c + v2)), some (.int (u.c % base)), x14, x15, x16] s')) := by
      intro x11 x12 x13 x14 x15 x16
      refine ⟨by decide, trivial, n, b - 10, 2, rfl, by rw [orc_get hn]; congr 2; omega, by omega, by unfold Bd; decide, fun y y0 y1 => ?_⟩
      rw [orc_set hn]
      rcases (show y = 0 ∨ y = 1 by omega) with rfl | rfl
      · show (fun w s1 => _) _ _
        exact fin ⟨u.s, u.t, u.c, u.c, some (u.c % base)⟩ T L (b - 10) _ _ _ _ _ _ _ _ _ (okp _ _ _ u4 (Int.le_refl _) (Int.le_refl _) (by omega) (fun x hx => Option.some.inj hx)) rfl rfl uf (cls _ rfl) (by omega) (by omega)
      · show (fun w s1 => _) _ _
        exact fin ⟨u.s, u.t, u.c, u.c, none⟩ T L (b - 10) _ _ _ _ _ _ _ _ _ (okp _ _ _ u4 (Int.le_refl _) (Int.le_refl _) (by omega) (fun x hx => by cases hx)) rfl rfl uf (cls _ (by simp [Pipe.op])) (by omega) (by omega)
    by_cases c1 : v < 2
    · have c4 : ¬ v = 4 := by omega
      simp only [c1, c4, decide_true, decide_false, if_true, Bool.false_eq_true, if_false]
      by_cases c2 : lb L u.s = lb L u.t
      · simp only [c2, decide_true, Bool.not_true, Bool.false_eq_true, if_false]
        exact two _ _ _ c4
      · have c2' : ¬ ((lb L u.s : Nat) : Int) = (lb L u.t : Nat) := by omega
        simp only [c2', decide_false, Bool.not_false, if_true]
        by_cases c3 : low < u.c + v2
        · simp only [c3, decide_true, if_true, min_int, max_int, itemsOf]
          have emin : (if ((lb L u.t : Nat) : Int) < (lb L u.s : Nat) then ((lb L u.t : Nat) : Int) else (lb L u.s : Nat)) = ((min (lb L u.s) (lb L u.t) : Nat) : Int) := by split <;> omega
          have emax : (if ((lb L u.t : Nat) : Int) > (lb L u.s : Nat) then ((lb L u.t : Nat) : Int) else (lb L u.s : Nat)) = ((max (lb L u.s) (lb L u.t) : Nat) : Int) := by split <;> omega
          rw [emin, emax]
          refine ⟨by decide, rfl, ?_⟩
          have r1 := root_end uf.le u1
          have r2 := root_end uf.le u2
          rw [uf.rt _ u1] at r1
          rw [uf.rt _ u2] at r2
          refine put_at (i := 0) (j := max (lb L u.s) (lb L u.t)) (xs := nW T) (hA _) rfl (by rw [List.length_map, uf.tl]; omega) ⟨trivial, ?_⟩
          have es : ∃ M, treesStep L ⟨u.s, u.t, low, u.c + v2, none⟩ = some M := by
            cases e : treesStep L ⟨u.s, u.t, low, u.c + v2, none⟩ with
            | none => exact absurd (step_none (p := ⟨u.s, u.t, low, u.c + v2, none⟩) (by rw [uf.ll]; exact u1) (by rw [uf.ll]; exact u2) e) c2
            | some M => exact ⟨M, rfl⟩
          obtain ⟨M, eM⟩ := es
          have eop : Pipe.op ⟨u.s, u.t, low, u.c + v2, none⟩ = true := by simp [Pipe.op, c3]
          have eJ : (nJ T as).set 0 (.lst ((nW T).set (max (lb L u.s) (lb L u.t)) (.int ((min (lb L u.s) (lb L u.t) : Nat) : Int)))) = nJ (T.set (max (lb L u.s) (lb L u.t)) (min (lb L u.s) (lb L u.t))) as := by
            unfold nJ
            rw [List.set_cons_zero]
            simp only [nW, List.map_set]
          rw [eJ]
          refine fin ⟨u.s, u.t, low, u.c + v2, none⟩ _ M (b - 9) _ _ _ _ _ _ _ _ _ (okp _ _ _ l0 l1 (by omega) (by omega) (fun x hx => by cases hx)) rfl rfl (uf.join eM) ?_ (by omega) (by omega)
          rw [List.filter_cons_of_pos (by exact eop), List.filter_nil]
          unfold treesOf at ht ⊢
          rw [List.foldlM_append, ht]
          show List.foldlM treesStep L [_] = _
          rw [List.foldlM_cons, eM]; rfl
        · simp only [c3, decide_false, Bool.false_eq_true, if_false]
          exact two _ _ _ c4
    · simp only [c1, decide_false, Bool.false_eq_true, if_false]
      by_cases c4 : v = 4
      · simp only [c4, decide_true, if_true]
        exact thr none none none _ _ _
      · simp only [c4, decide_false, Bool.false_eq_true, if_false]
        exact two _ _ _ c4
def drawnW (N : Net) (as : List (Pipe × Int)) : W := .tup [netW N, .tup (as.map fun a => W.int a.2)]
def sp_law_net : FT := fun ws s q _ => ∃ (n b many rings more : Nat), ws = [.ref n, .int (many : Nat), .int (rings : Nat), .int (more : Nat)] ∧ s[n]? = some (.orc (b + (1 + 84 * rings + 35 * more))) ∧ 1 ≤ many ∧ many ≤ 24 ∧ rings ≤ 20 ∧ more ≤ 20 ∧ 4 * rings + more ≤ 60 ∧
  ∀ N as, Drawn N as → N.n = many → q (drawnW N as) (s.set n (.orc b))
theorem ok_law_net : ∀ ws s q e, sp_law_net ws s q e → gc (fnM 17 (t_law_net sp_law_base sp_law_tubes sp_law_amount sp_law_root sp_law_draw)) ws s q e := by
  rintro ws s q e ⟨n, b, many, rings, more, rfl, hn, m1, m24, hr, hm, hrm, h⟩
  have hlt := (List.getElem?_eq_some_iff.mp hn).1
  show fnM 17 (t_law_net sp_law_base sp_law_tubes sp_law_amount sp_law_root sp_law_draw) _ s _ _
  simp only [↓u_fnM, ↓u_mSeq, ↓u_mIfS, ↓u_mRet, ↓u_mRetN, ↓u_mSet, ↓u_mExpr, ↓u_mVar, ↓u_mK, ↓u_mBin, ↓u_mUn, ↓u_mChain, ↓u_mT, ↓u_mAnd, ↓u_mOr, ↓u_mNot, ↓u_bAnd, ↓u_bOr, ↓u_bNot, ↓u_mIf, ↓u_mFn, ↓u_mTup, ↓u_mLst, ↓u_mNew, ↓u_mCons, ↓u_mNil, ↓u_mCall, ↓u_mNext, ↓u_mAsg, ↓u_mFor, ↓u_mComp, ↓u_mCompN, ↓u_iSeqM, ↓u_mEnum, ↓u_mZip, ↓u_mPar2, ↓u_mPar3, ↓u_mPut, ↓u_mAug, ↓u_mAugS, ↓u_mBM, ↓u_mBM0, ↓u_mCallK, ↓u_mListRg, ↓u_mListRgN, ↓u_mTupRg, ↓u_mRg1, ↓u_mRg2, ↓u_iRngM1, ↓u_iRngM2, ↓u_pAt, ↓u_pNo, ↓u_mIsi, ↓u_mNever, ↓u_gtTp, ↓u_gtCons, ↓u_gtNil, ↓u_gtNm, ↓u_gtSub, ↓u_mBreak, ↓u_mCont, ↓u_mDisp, ↓u_bYes, ↓u_oI, ↓u_oB, ↓u_oIs, ↓u_oEqT, ↓u_seqT, ↓u_seqL, ↓u_seqS, ↓mSl_eq, slW_tup, slW_lst, List.map_cons, List.map_nil, List.length_cons, List.length_nil, List.cons_append, List.nil_append, List.getElem?_cons_zero, List.getElem?_cons_succ, List.set_cons_zero, List.set_cons_succ, List.replicate, Nat.reduceAdd, Nat.reduceSub, Nat.zero_add, if_true, Bool.false_eq_true, if_false, Bool.true_eq_false, reduceIte, t_law_net, itemsOf]
  refine ⟨trivial, n, b + (84 * rings + 35 * more), rfl, by rw [hn]; congr 2; omega, fun base b2 b6 => ?_⟩
  refine ⟨⟨by omega, by omega, by omega, by omega, by omega⟩, by show 0 ≤ sizeLine; omega, by show 0 ≤ sizeLine; omega, by show 4 ≤ sizeLine; decide, trivial, trivial, ?_⟩
  have hA : ∀ j, (s.set n (.orc j)).length = s.length := by simp
  refine ⟨trivial, n, b + (40 * rings + 10 * more), rings, more, many, base, by simp, ?_, m1, m24, b2, b6, by omega, by omega, fun us g1 g2 g3 => ?_⟩
  · rw [List.append_assoc, List.append_assoc, orc_get hlt]; congr 2; omega
  rw [rangeL_nats]
  have e0 : (s.set n (.orc (b + (84 * rings + 35 * more))) ++ [Cell.lst (nW (List.range many))] ++ [Cell.lst []] ++ [Cell.lst []]).set n (.orc (b + (40 * rings + 10 * more))) = s.set n (.orc (b + (40 * rings + 10 * more))) ++ nJ (List.range many) [] := by
    rw [List.append_assoc, List.append_assoc, orc_set hlt]; rfl
  rw [e0]
  simp only [u_seqL, List.length_append, List.length_cons, List.length_nil, List.length_set]
  refine net_loop hlt b2 b6 m24 us (List.range many) (List.range many) [] _ none none none none none none none none none g1 (UF.start many) rfl (by simp) (by omega) (by simp; omega) fun T L as' b' x8 x9 x10 x11 x12 x13 x14 x15 x16 k1 k2 k3 k4 k5 => ?_
  have k3' : as'.map tubeOf = us := by simpa using k3
  have hlen : as'.length = us.length := by rw [← k3']; simp
  have it1 := itemsOf_at (A := s.set n (.orc b')) (L := s.length) (J := nJ T as') (i := 1) (xs := as'.map fun a => pW a.1) (hA _) rfl
  have it2 := itemsOf_at (A := s.set n (.orc b')) (L := s.length) (J := nJ T as') (i := 2) (xs := as'.map fun a => W.int a.2) (hA _) rfl
  simp only [↓u_fnM, ↓u_mSeq, ↓u_mIfS, ↓u_mRet, ↓u_mRetN, ↓u_mSet, ↓u_mExpr, ↓u_mVar, ↓u_mK, ↓u_mBin, ↓u_mUn, ↓u_mChain, ↓u_mT, ↓u_mAnd, ↓u_mOr, ↓u_mNot, ↓u_bAnd, ↓u_bOr, ↓u_bNot, ↓u_mIf, ↓u_mFn, ↓u_mTup, ↓u_mLst, ↓u_mNew, ↓u_mCons, ↓u_mNil, ↓u_mCall, ↓u_mNext, ↓u_mAsg, ↓u_mFor, ↓u_mComp, ↓u_mCompN, ↓u_iSeqM, ↓u_mEnum, ↓u_mZip, ↓u_mPar2, ↓u_mPar3, ↓u_mPut, ↓u_mAug, ↓u_mAugS, ↓u_mBM, ↓u_mBM0, ↓u_mCallK, ↓u_mListRg, ↓u_mListRgN, ↓u_mTupRg, ↓u_mRg1, ↓u_mRg2, ↓u_iRngM1, ↓u_iRngM2, ↓u_pAt, ↓u_pNo, ↓u_mIsi, ↓u_mNever, ↓u_gtTp, ↓u_gtCons, ↓u_gtNil, ↓u_gtNm, ↓u_gtSub, ↓u_mBreak, ↓u_mCont, ↓u_mDisp, ↓u_bYes, ↓u_oI, ↓u_oB, ↓u_oIs, ↓u_oEqT, ↓u_seqT, ↓u_seqL, ↓u_seqS, ↓mSl_eq, slW_tup, slW_lst, List.map_cons, List.map_nil, List.length_cons, List.length_nil, List.cons_append, List.nil_append, List.getElem?_cons_zero, List.getElem?_cons_succ, List.set_cons_zero, List.set_cons_succ, List.replicate, Nat.reduceAdd, Nat.reduceSub, Nat.zero_add, if_true, Bool.false_eq_true, if_false, Bool.true_eq_false, reduceIte, oTuple, seqVals, it1, it2]
  refine ⟨by show 3 ≤ sizeLine; decide, by show 2 ≤ sizeLine; decide, ?_⟩
  have D : Drawn ⟨base, many, as'.map (·.1)⟩ as' := by
    refine ⟨rfl, ⟨b2, b6, m1, m24, by simp; omega, fun p hp => ?_, ?_⟩, k2, fun x => by rw [k3']; exact g2 x⟩
    · obtain ⟨a, ha, rfl⟩ := List.mem_map.mp hp
      exact (k2 a ha).ok
    · unfold Net.ops; rw [k1]; exact fun z => by cases z
  have := h _ as' D rfl
  refine gcQ.draw hn (by omega) ?_ this
  have en : drawnW ⟨base, many, as'.map (·.1)⟩ as' = .tup [.tup [.int base, .int many, .tup (as'.map fun a => pW a.1)], .tup (as'.map fun a => W.int a.2)] := by
    simp [drawnW, netW, List.map_map, Function.comp_def]
  rw [en]
  have f1 : ∀ l : List (Pipe × Int), Frzs s.length (s.set n (.orc b') ++ nJ T as') (l.map fun a => pW a.1) (l.map fun a => pW a.1) := fun l => by
    induction l with
    | nil => exact .nil
    | cons a l ih => exact .cons (.tup (.cons .int (.cons .int (.cons .int (.cons .int (.cons (by cases a.1.me <;> constructor) .nil)))))) ih
  have f2 : ∀ l : List (Pipe × Int), Frzs s.length (s.set n (.orc b') ++ nJ T as') (l.map fun a => W.int a.2) (l.map fun a => W.int a.2) := fun l => by
    induction l with
    | nil => exact .nil
    | cons a l ih => exact .cons .int ih
  exact .tup (.cons (.tup (.cons .int (.cons .int (.cons (.tup (f1 _)) .nil)))) (.cons (.tup (f2 _)) .nil))
end Fw

set_option maxRecDepth 100000
set_option maxHeartbeats 4000000
namespace Fw
open PySem PySem.Spec PyProof.Rows L2

/-! ## networks as data -/
def mD : Option Int → PyData
  | none => .none
  | some i => .int i
def pD (p : Pipe) : PyData := .tuple [.int p.s, .int p.t, .int p.lo, .int p.hi, mD p.me]
theorem dat_p (f : Nat → Option PyData) (p : Pipe) : dat f (pW p) = some (pD p) := by
  obtain ⟨a, b, lo, hi, me⟩ := p
  cases me <;> rfl
theorem dats_ps (f : Nat → Option PyData) : ∀ ps : List Pipe, dats f (ps.map pW) = some (ps.map pD)
  | [] => rfl
  | p :: ps => by
    show (match dat f (pW p), dats f (ps.map pW) with
      | some d, some ds => some (d :: ds)
      | _, _ => none) = _
    rw [dats_ps f ps, dat_p]; rfl
theorem depth_p (p : Pipe) : (pD p).depth ≤ 2 := by
  obtain ⟨a, b, lo, hi, me⟩ := p
  cases me <;> simp [pD, mD, PyData.depth, PyData.depthAll]
theorem lay_p (p : Pipe) : (pD p).canLay0 = true := by
  obtain ⟨a, b, lo, hi, me⟩ := p
  cases me <;> rfl
theorem depth_ps : ∀ ps : List Pipe, PyData.depthAll (ps.map pD) ≤ 2
  | [] => by simp [PyData.depthAll]
  | p :: ps => by
    have h1 := depth_ps ps
    have h2 := depth_p p
    simp only [List.map_cons, PyData.depthAll]
    omega
theorem lay_ps : ∀ ps : List Pipe, PyData.canLayAll0 (ps.map pD) = true
  | [] => rfl
  | p :: ps => by simp [PyData.canLayAll0, lay_p, lay_ps ps]
theorem shaped_ps (ps : List Pipe) : SeqAt.shaped (.tuple (ps.map pD)) = true := by
  have := depth_ps ps
  unfold SeqAt.shaped
  rw [Bool.and_eq_true]
  exact ⟨lay_ps ps, decide_eq_true (by simp only [PyData.depth]; omega)⟩
theorem eq_ps_nil {ps : List Pipe} {s : S} {q : QW} {neg : Bool} : oEq neg (.tup (ps.map pW)) (.tup []) s q = q (.bl (neg != decide (ps = []))) s := by
  have hd : datS s (.tup (ps.map pW)) = some (.tuple (ps.map pD)) := by
    show (dats _ (ps.map pW)).map PyData.tuple = _
    rw [dats_ps]; rfl
  have he : datS s (.tup []) = some (.tuple []) := rfl
  unfold oEq
  rw [hd, he]
  have h2 : SeqAt.shaped (.tuple []) = true := rfl
  have h3 : PyData.eqv (.tuple (ps.map pD)) (.tuple []) = decide (ps = []) := by
    cases ps <;> simp [PyData.eqv, PyData.eqvAll]
  simp only [shaped_ps, h2, h3, Bool.and_self, true_and]
theorem eq_lp_nil {ps : List Pipe} {s : S} {q : QW} {neg : Bool} : oEq neg (.lst (ps.map pW)) (.lst []) s q = q (.bl (neg != decide (ps = []))) s := by
  have hd : datS s (.lst (ps.map pW)) = some (.list (ps.map pD)) := by
    show (dats _ (ps.map pW)).map PyData.list = _
    rw [dats_ps]; rfl
  have he : datS s (.lst []) = some (.list []) := rfl
  unfold oEq
  rw [hd, he]
  have h1 : SeqAt.shaped (.list (ps.map pD)) = true := by
    have := depth_ps ps
    unfold SeqAt.shaped
    rw [Bool.and_eq_true]
    exact ⟨lay_ps ps, decide_eq_true (by simp only [PyData.depth]; omega)⟩
  have h2 : SeqAt.shaped (.list []) = true := rfl
  have h3 : PyData.eqv (.list (ps.map pD)) (.list []) = decide (ps = []) := by
    cases ps <;> simp [PyData.eqv, PyData.eqvAll]
  simp only [h1, h2, h3, Bool.and_self, true_and]
theorem eq_p1 {a b c d : Int} {me : Option Int} {s : S} {q : QW} {neg : Bool} : oEq neg (.lst [.tup [.int a, .int b, .int c, .int d, mW me]]) (.lst []) s q = q (.bl (neg != false)) s := by
  cases me <;> exact propext ⟨fun h => h.2, fun h => ⟨rfl, h⟩⟩
theorem eq_p1i {a b c d x : Int} {s : S} {q : QW} {neg : Bool} : oEq neg (.lst [.tup [.int a, .int b, .int c, .int d, .int x]]) (.lst []) s q = q (.bl (neg != false)) s := eq_p1 (me := some x)
theorem eq_l00 {s : S} {q : QW} {neg : Bool} : oEq neg (.lst []) (.lst []) s q = q (.bl (neg != true)) s := propext ⟨fun h => h.2, fun h => ⟨rfl, h⟩⟩
theorem tup_l {xs : List W} {s : S} {q : QW} : oTuple [.lst xs] s q = q (.tup xs) s := propext ⟨fun h => h, fun h => h⟩
theorem tup_t {xs : List W} {s : S} {q : QW} : oTuple [.tup xs] s q = q (.tup xs) s := propext ⟨fun h => h, fun h => h⟩
theorem items_net {N : Net} {s : S} : itemsOf (netW N) s = some [.int N.b, .int N.n, .tup (N.ps.map pW)] := rfl
theorem items_pipe {p : Pipe} {s : S} : itemsOf (pW p) s = some [.int p.s, .int p.t, .int p.lo, .int p.hi, mW p.me] := rfl

/-! ## a network with one pipe otherwise -/
def putN (N : Net) (i : Nat) (p : Pipe) : Net := { N with ps := N.ps.take i ++ p :: N.ps.drop (i + 1) }
theorem put_get {N : Net} {i : Nat} (hi : i < N.ps.length) {p : Pipe} (j : Nat) : (putN N i p).ps[j]? = if j = i then some p else N.ps[j]? := by
  unfold putN
  simp only
  by_cases c : j < i
  · rw [List.getElem?_append_left (by simp; omega), List.getElem?_take, if_pos c, if_neg (by omega)]
  · rw [List.getElem?_append_right (by simp; omega), List.length_take, Nat.min_eq_left (by omega)]
    by_cases c2 : j = i
    · subst c2; simp
    · rw [if_neg c2, show j - i = (j - i - 1) + 1 by omega, List.getElem?_cons_succ, List.getElem?_drop, show i + 1 + (j - i - 1) = j by omega]
theorem put_len {N : Net} {i : Nat} (hi : i < N.ps.length) {p : Pipe} : (putN N i p).ps.length = N.ps.length := by
  unfold putN; simp; omega
theorem put_valid {N : Net} (V : Valid N) {i : Nat} {p p' : Pipe} (hp : N.ps[i]? = some p) (ok : OkPipe N.b N.n p') (ho : p'.op = true → p.op = true ∧ p'.s = p.s ∧ p'.t = p.t) : Valid (putN N i p') := by
  have hi := (List.getElem?_eq_some_iff.mp hp).1
  have ends : ∀ q ∈ (putN N i p').ps, OkPipe N.b N.n q := fun q hq => by
    obtain ⟨j, hj⟩ := List.getElem?_of_mem hq
    rw [put_get hi] at hj
    split at hj
    · cases hj; exact ok
    · exact V.ok q (List.mem_of_getElem? hj)
  refine ⟨V.b2, V.b6, V.n1, V.n24, by rw [put_len hi]; exact V.len, ends, ?_⟩
  have := trees_of_pots (n := N.n) (opE (putN N i p')) [] (List.range N.n) (Lab.nil _) (fun a ha => ?_) (by rw [List.nil_append]; exact opE_nd _) fun g => ?_
  · rw [opE_ops] at this; exact this
  · have := ends a.1 (List.fst_mem_of_mem_zipIdx (opE_mem.mp (by simpa using ha)).1)
    exact ⟨this.s, this.t⟩
  · obtain ⟨f, hf⟩ := V.pots g
    refine ⟨f, fun a ha => ?_⟩
    obtain ⟨h1, h2⟩ := opE_mem.mp (by simpa using ha)
    have h3 := en_get h1
    rw [put_get hi] at h3
    by_cases c : a.2 = i
    · rw [if_pos c] at h3
      have e := Option.some.inj h3
      obtain ⟨k1, k2, k3⟩ := ho (by rw [e]; exact h2)
      have := hf (p, i) (opE_mem.mpr ⟨en_mem hp, k1⟩)
      rw [← e, k2, k3, c]; exact this
    · rw [if_neg c] at h3
      exact hf a (opE_mem.mpr ⟨en_mem h3, h2⟩)
def sp_law_bent : FT := fun ws s q _ => ∃ (n b : Nat) (N : Net), ws = [.ref n, netW N] ∧ s[n]? = some (.orc (b + 3)) ∧ Valid N ∧ ∀ N', Valid N' → N'.n = N.n → N'.b = N.b → N'.ps.length = N.ps.length → q (netW N') (s.set n (.orc b))
theorem frz_p {k : Nat} {s : S} (p : Pipe) : Frz k s (pW p) (pW p) := .tup (.cons .int (.cons .int (.cons .int (.cons .int (.cons (by cases p.me <;> constructor) .nil)))))
theorem frz_ps {k : Nat} {s : S} : ∀ ps : List Pipe, Frzs k s (ps.map pW) (ps.map pW)
  | [] => .nil
  | p :: ps => .cons (frz_p p) (frz_ps ps)
theorem frz_net {k : Nat} {s : S} (N : Net) : Frz k s (netW N) (netW N) := .tup (.cons .int (.cons .int (.cons (.tup (frz_ps _)) .nil)))
theorem ok_law_bent : ∀ ws s q e, sp_law_bent ws s q e → gc (fnM 13 (t_law_bent sp_law_draw)) ws s q e := by
  rintro ws s q e ⟨n, b, N, rfl, hn, V, h⟩
  have hlt := (List.getElem?_eq_some_iff.mp hn).1
  have b2 := V.b2
  have b6 := V.b6
  have hl := V.len
  show fnM 13 (t_law_bent sp_law_draw) _ s _ _
  -- what is handed out
  have fin : ∀ (N' : Net) (b1 : Nat), Valid N' → N'.n = N.n → N'.b = N.b → N'.ps.length = N.ps.length → b ≤ b1 → gcQ s q (netW N') (s.set n (.orc b1)) := fun N' b1 h1 h2 h3 h4 h5 => by
    have := gcQ.draw (s := s) (junk := []) (q := q) (w := netW N') (w0 := netW N') hn h5 (frz_net N') (h N' h1 h2 h3 h4)
    rwa [List.append_nil] at this
  simp only [↓u_fnM, ↓u_mSeq, ↓u_mIfS, ↓u_mRet, ↓u_mRetN, ↓u_mSet, ↓u_mExpr, ↓u_mVar, ↓u_mK, ↓u_mBin, ↓u_mUn, ↓u_mChain, ↓u_mT, ↓u_mAnd, ↓u_mOr, ↓u_mNot, ↓u_bAnd, ↓u_bOr, ↓u_bNot, ↓u_mIf, ↓u_mFn, ↓u_mTup, ↓u_mLst, ↓u_mNew, ↓u_mCons, ↓u_mNil, ↓u_mCall, ↓u_mNext, ↓u_mAsg, ↓u_mFor, ↓u_mComp, ↓u_mCompN, ↓u_iSeqM, ↓u_mEnum, ↓u_mZip, ↓u_mPar2, ↓u_mPar3, ↓u_mPut, ↓u_mAug, ↓u_mAugS, ↓u_mBM, ↓u_mBM0, ↓u_mCallK, ↓u_mListRg, ↓u_mListRgN, ↓u_mTupRg, ↓u_mRg1, ↓u_mRg2, ↓u_iRngM1, ↓u_iRngM2, ↓u_pAt, ↓u_pNo, ↓u_mIsi, ↓u_mNever, ↓u_gtTp, ↓u_gtCons, ↓u_gtNil, ↓u_gtNm, ↓u_gtSub, ↓u_mBreak, ↓u_mCont, ↓u_mDisp, ↓u_bYes, ↓u_oI, ↓u_oB, ↓u_oIs, ↓u_oEqT, ↓u_seqT, ↓u_seqL, ↓u_seqS, ↓mSl_eq, slW_tup, slW_lst, List.map_cons, List.map_nil, List.length_cons, List.length_nil, List.cons_append, List.nil_append, List.getElem?_cons_zero, List.getElem?_cons_succ, List.set_cons_zero, List.set_cons_succ, List.replicate, Nat.reduceAdd, Nat.reduceSub, Nat.zero_add, if_true, Bool.false_eq_true, if_false, Bool.true_eq_false, reduceIte, t_law_bent, items_net, eq_ps_nil, Bool.false_bne]
  refine ⟨trivial, ?_⟩
  by_cases hnil : N.ps = []
  · have := fin N (b + 3) V rfl rfl rfl (by omega)
    rw [orc_same hn] at this
    simp only [hnil, decide_true, if_true]
    refine ⟨trivial, by show 0 ≤ sizeLine; omega, ?_⟩
    exact this
  simp only [hnil, decide_false, Bool.false_eq_true, if_false]
  have hpos : 0 < N.ps.length := by
    cases hz : N.ps with
    | nil => exact absurd hz hnil
    | cons => simp
  refine ⟨trivial, by show 0 ≤ sizeLine; omega, ?_⟩
  have hlen : ∀ (k : QW), k (.int (N.ps.length : Nat)) s → oLen [.tup (N.ps.map pW)] s k := fun k hk => by
    simp only [oLen, lenOf, itemsOf, Option.map_some, List.length_map]; exact hk
  refine hlen _ ⟨trivial, n, b + 2, N.ps.length, rfl, hn, by omega, by unfold Bd; omega, fun v v0 v1 => ?_⟩
  obtain ⟨i, rfl⟩ : ∃ i : Nat, v = (i : Int) := ⟨v.toNat, by omega⟩
  have hi : i < N.ps.length := by omega
  have ei : N.ps[i]? = some N.ps[i] := List.getElem?_eq_getElem hi
  have ok := V.ok N.ps[i] (List.getElem_mem hi)
  generalize N.ps[i] = p at ei ok
  refine ⟨trivial, n, b + 1, 4, rfl, by rw [List.getElem?_set_self hlt], by omega, by unfold Bd; decide, fun v y0 y1 => ?_⟩
  rw [List.set_set]
  refine ⟨by show 0 ≤ sizeLine; omega, ix_pipe ei ?_⟩
  simp only [items_pipe, eq_int, Bool.false_bne, add_int]
  refine ⟨rfl, trivial, ?_⟩
  have c1 : cutW (N.ps.map pW) none (some (i : Int)) = (N.ps.take i).map pW := by rw [cut_to (by simp; omega), List.map_take]
  have c2 : cutW (N.ps.map pW) (some ((i : Int) + 1)) none = (N.ps.drop (i + 1)).map pW := by
    rw [show ((i : Int) + 1) = ((i + 1 : Nat) : Int) by omega, cut_from (by simp; omega), List.map_drop]
  have tail : ∀ (p' : Pipe) (b1 : Nat), OkPipe N.b N.n p' → (p'.op = true → p.op = true ∧ p'.s = p.s ∧ p'.t = p.t) → b ≤ b1 →
      0 ≤ sizeLine ∧ ((N.ps.take i).map pW).length + [pW p'].length ≤ sizeLine ∧ ((N.ps.take i).map pW ++ [pW p']).length + ((N.ps.drop (i + 1)).map pW).length ≤ sizeLine ∧ 3 ≤ sizeLine ∧ gcQ s q (.tup [.int N.b, .int N.n, .tup ((N.ps.take i).map pW ++ [pW p'] ++ (N.ps.drop (i + 1)).map pW)]) (s.set n (.orc b1)) := fun p' b1 h1 h2 h3 => by
    refine ⟨by omega, leW _ (by simp; omega), leW _ (by simp; omega), by decide, ?_⟩
    have := fin (putN N i p') b1 (put_valid V ei h1 h2) rfl rfl (put_len hi) h3
    have e : netW (putN N i p') = .tup [.int N.b, .int N.n, .tup ((N.ps.take i).map pW ++ [pW p'] ++ (N.ps.drop (i + 1)).map pW)] := by simp [netW, putN]
    rwa [e] at this
  have same : ∀ b1, b ≤ b1 → 0 ≤ sizeLine ∧ gcQ s q (netW N) (s.set n (.orc b1)) := fun b1 h1 => ⟨by omega, fin N b1 V rfl rfl rfl h1⟩
  have ne1 : ∀ {x y : Int}, x ≠ y → decide (x = y) = false := fun h => by simp [h]
  rcases (show v = 0 ∨ v = 1 ∨ v = 2 ∨ v = 3 by omega) with rfl | rfl | rfl | rfl
  · simp only [decide_true, if_true, ne1 (show (0 : Int) ≠ 1 by decide), ne1 (show (0 : Int) ≠ 2 by decide), ne1 (show (0 : Int) ≠ 3 by decide), Bool.false_eq_true, if_false, eq_p1, eq_p1i, eq_l00, Bool.false_bne]
    cases hm : p.me with
    | none =>
      simp only [mW, isNonW, bne_self_eq_false, Bool.false_eq_true, if_false]
      exact same _ (by omega)
    | some x =>
      obtain ⟨x0, x1⟩ := ok.me x hm
      simp only [mW, isNonW, Bool.true_bne, Bool.not_false, if_true, add_int, u_oI]
      refine ⟨trivial, trivial, n, b, N.b - 1, rfl, by rw [List.getElem?_set_self hlt], by omega, by unfold Bd; omega, fun w z0 z1 => ?_⟩
      rw [List.set_set]
      simp only [add_int, u_oI, eq_p1i, Bool.false_bne, Bool.false_eq_true, if_false, tup_l, add_tup, c1, c2]
      refine ⟨by omega, by decide, by decide, ?_⟩
      exact tail ⟨p.s, p.t, p.lo, p.hi, some ((x + 1 + w) % N.b)⟩ b ⟨ok.s, ok.t, ok.ne, ok.lo, ok.lh, ok.hi, fun y hy => by cases hy; exact ⟨Int.emod_nonneg _ (by omega), Int.emod_lt_of_pos _ (by omega)⟩⟩ (fun z => by simp [Pipe.op] at z) (Nat.le_refl _)
  · simp only [decide_true, if_true, ne1 (show (1 : Int) ≠ 0 by decide), ne1 (show (1 : Int) ≠ 2 by decide), ne1 (show (1 : Int) ≠ 3 by decide), Bool.false_eq_true, if_false]
    have o1 := ok.lo
    have o2 := ok.lh
    have o3 := ok.hi
    refine ⟨trivial, trivial, n, b, 3, rfl, by rw [List.getElem?_set_self hlt], by omega, by unfold Bd; decide, fun w z0 z1 => ?_⟩
    rw [List.set_set]
    simp only [add_int, u_oI, eq_p1, Bool.false_bne, Bool.false_eq_true, if_false, tup_l, add_tup, c1, c2]
    refine ⟨Bd.cmul (a := 41) (b := 3) (by unfold Bd; omega) (by unfold Bd; omega), cdiv (b := 3) (by omega) (by unfold Bd; decide), by decide, by decide, ?_⟩
    have hd : 0 ≤ (p.hi - p.lo) * (1 + w) / 3 ∧ (p.hi - p.lo) * (1 + w) / 3 ≤ p.hi - p.lo := by
      rcases (show w = 0 ∨ w = 1 ∨ w = 2 by omega) with rfl | rfl | rfl <;> omega
    exact tail ⟨p.s, p.t, p.lo + (p.hi - p.lo) * (1 + w) / 3, p.hi, p.me⟩ b ⟨ok.s, ok.t, ok.ne, by show 0 ≤ p.lo + _; omega, by show p.lo + _ ≤ p.hi; omega, ok.hi, ok.me⟩ (fun z => by
      simp [Pipe.op] at z ⊢
      exact ⟨z.1, by omega⟩) (Nat.le_refl _)
  · simp only [decide_true, if_true, ne1 (show (2 : Int) ≠ 0 by decide), ne1 (show (2 : Int) ≠ 1 by decide), ne1 (show (2 : Int) ≠ 3 by decide), Bool.false_eq_true, if_false]
    have o1 := ok.lo
    have o2 := ok.lh
    have o3 := ok.hi
    refine ⟨trivial, trivial, n, b, 3, rfl, by rw [List.getElem?_set_self hlt], by omega, by unfold Bd; decide, fun w z0 z1 => ?_⟩
    rw [List.set_set]
    simp only [add_int, u_oI, eq_p1, Bool.false_bne, Bool.false_eq_true, if_false, tup_l, add_tup, c1, c2]
    refine ⟨Bd.cmul (a := 41) (b := 3) (by unfold Bd; omega) (by unfold Bd; omega), cdiv (b := 3) (by omega) (by unfold Bd; decide), trivial, by decide, by decide, ?_⟩
    have hd : 0 ≤ (p.hi - p.lo) * (1 + w) / 3 ∧ (p.hi - p.lo) * (1 + w) / 3 ≤ p.hi - p.lo := by
      rcases (show w = 0 ∨ w = 1 ∨ w = 2 by omega) with rfl | rfl | rfl <;> omega
    exact tail ⟨p.s, p.t, p.lo, p.hi - (p.hi - p.lo) * (1 + w) / 3, p.me⟩ b ⟨ok.s, ok.t, ok.ne, ok.lo, by show p.lo ≤ p.hi - _; omega, by show p.hi - _ ≤ _; omega, ok.me⟩ (fun z => by
      simp [Pipe.op] at z ⊢
      exact ⟨z.1, by omega⟩) (Nat.le_refl _)
  · simp only [decide_true, if_true, ne1 (show (3 : Int) ≠ 0 by decide), ne1 (show (3 : Int) ≠ 1 by decide), ne1 (show (3 : Int) ≠ 2 by decide), Bool.false_eq_true, if_false, eq_p1, eq_l00, Bool.false_bne]
    cases hm : p.me with
    | none =>
      simp only [mW, isNonW, bne_self_eq_false, Bool.false_eq_true, if_false, if_true]
      exact same _ (by omega)
    | some x =>
      simp only [isNonW, mW, Bool.true_bne, Bool.not_false, if_true, Bool.false_eq_true, if_false, tup_l, add_tup, c1, c2]
      refine ⟨by decide, by decide, ?_⟩
      exact tail ⟨p.t, p.s, p.lo, p.hi, some x⟩ (b + 1) ⟨ok.t, ok.s, fun z => ok.ne z.symm, ok.lo, ok.lh, ok.hi, fun y hy => ok.me y (by rw [hm]; exact hy)⟩ (fun z => by simp [Pipe.op] at z) (by omega)
end Fw

set_option maxRecDepth 100000
set_option maxHeartbeats 4000000
namespace Fw
open PySem PySem.Spec PyProof.Rows L2

/-! ## _law_sized_net -/
abbrev gW (gs : List (List Nat)) : List W := gs.map fun g => .tup (nW g)
def gD (g : List Nat) : PyData := .tuple (g.map fun (i : Nat) => .int (i : Int))
theorem dats_gs (f : Nat → Option PyData) : ∀ gs : List (List Nat), dats f (gW gs) = some (gs.map gD)
  | [] => rfl
  | g :: gs => by
    show (match dat f (.tup (nW g)), dats f (gW gs) with
      | some d, some ds => some (d :: ds)
      | _, _ => none) = _
    rw [dats_gs f gs]
    have : dat f (.tup (nW g)) = some (gD g) := by
      show (dats f (nW g)).map PyData.tuple = _
      rw [dats_nats]; rfl
    rw [this]; rfl
theorem shape_gs : ∀ gs : List (List Nat), PyData.depthAll (gs.map gD) ≤ 2 ∧ PyData.canLayAll0 (gs.map gD) = true
  | [] => by simp [PyData.depthAll, PyData.canLayAll0]
  | g :: gs => by
    obtain ⟨h1, h2⟩ := shape_gs gs
    have h3 := depthAll_ints (g.map fun (i : Nat) => (i : Int))
    have h4 := layAll_ints (g.map fun (i : Nat) => (i : Int))
    rw [← nats_ints] at h3 h4
    constructor
    · simp only [List.map_cons, PyData.depthAll, gD, PyData.depth]; omega
    · simp only [List.map_cons, PyData.canLayAll0, gD, PyData.canLay0, h4, h2, Bool.and_self]
theorem shaped_gs (gs : List (List Nat)) : SeqAt.shaped (.list (gs.map gD)) = true := by
  obtain ⟨h1, h2⟩ := shape_gs gs
  unfold SeqAt.shaped
  rw [Bool.and_eq_true]
  exact ⟨h2, decide_eq_true (by simp only [PyData.depth]; omega)⟩
theorem eq_gs_nil {gs : List (List Nat)} {s : S} {q : QW} {neg : Bool} (k : q (.bl (neg != decide (gs = []))) s) : oEq neg (.lst (gW gs)) (.lst []) s q := by
  refine eq_lst_nil (dats_gs _ gs) (shaped_gs gs) ?_
  have : decide (gW gs = []) = decide (gs = []) := by cases gs <;> simp
  rw [this]; exact k
theorem dx0 {N : Net} {as : List (Pipe × Int)} {s : S} {q : QW} : oIx (drawnW N as) (.int 0) s q = q (netW N) s := propext ⟨fun h => h, fun h => h⟩
theorem dx1 {N : Net} {as : List (Pipe × Int)} {s : S} {q : QW} : oIx (drawnW N as) (.int 1) s q = q (.tup (as.map fun a => W.int a.2)) s := propext ⟨fun h => h, fun h => h⟩
def sp_law_sized_net : FT := fun ws s q _ => ∃ (n b : Nat), ws = [.ref n] ∧ s[n]? = some (.orc (b + 2000)) ∧ ∀ N, Valid N → Even N → q (netW N) (s.set n (.orc b))
theorem ok_law_sized_net : ∀ ws s q e, sp_law_sized_net ws s q e → gc (fnM 3 (t_law_sized_net sp_law_draw sp_law_net sp_law_bent sp_law_wrong)) ws s q e := by
  rintro ws s q e ⟨n, b, rfl, hn, h⟩
  have hlt := (List.getElem?_eq_some_iff.mp hn).1
  have hset : ∀ {j : Nat}, (s.set n (.orc j))[n]? = some (.orc j) := fun {j} => List.getElem?_set_self hlt
  show fnM 3 (t_law_sized_net sp_law_draw sp_law_net sp_law_bent sp_law_wrong) _ s _ _
  simp only [↓u_fnM, ↓u_mSeq, ↓u_mIfS, ↓u_mRet, ↓u_mRetN, ↓u_mSet, ↓u_mExpr, ↓u_mVar, ↓u_mK, ↓u_mBin, ↓u_mUn, ↓u_mChain, ↓u_mT, ↓u_mAnd, ↓u_mOr, ↓u_mNot, ↓u_bAnd, ↓u_bOr, ↓u_bNot, ↓u_mIf, ↓u_mFn, ↓u_mTup, ↓u_mLst, ↓u_mNew, ↓u_mCons, ↓u_mNil, ↓u_mCall, ↓u_mNext, ↓u_mAsg, ↓u_mFor, ↓u_mComp, ↓u_mCompN, ↓u_iSeqM, ↓u_mEnum, ↓u_mZip, ↓u_mPar2, ↓u_mPar3, ↓u_mPut, ↓u_mAug, ↓u_mAugS, ↓u_mBM, ↓u_mBM0, ↓u_mCallK, ↓u_mListRg, ↓u_mListRgN, ↓u_mTupRg, ↓u_mRg1, ↓u_mRg2, ↓u_iRngM1, ↓u_iRngM2, ↓u_pAt, ↓u_pNo, ↓u_mIsi, ↓u_mNever, ↓u_gtTp, ↓u_gtCons, ↓u_gtNil, ↓u_gtNm, ↓u_gtSub, ↓u_mBreak, ↓u_mCont, ↓u_mDisp, ↓u_bYes, ↓u_oI, ↓u_oB, ↓u_oIs, ↓u_oEqT, ↓u_seqT, ↓u_seqL, ↓u_seqS, ↓mSl_eq, slW_tup, slW_lst, List.map_cons, List.map_nil, List.length_cons, List.length_nil, List.cons_append, List.nil_append, List.getElem?_cons_zero, List.getElem?_cons_succ, List.set_cons_zero, List.set_cons_succ, List.replicate, Nat.reduceAdd, Nat.reduceSub, Nat.zero_add, if_true, Bool.false_eq_true, if_false, Bool.true_eq_false, reduceIte, t_law_sized_net]
  -- the second part
  have part : ∀ (N : Net) (as : List (Pipe × Int)) (b1 : Nat), Drawn N as → b + 3 ≤ b1 → True ∧ sp_law_bent [.ref n, netW N] (s.set n (.orc b1)) (fun w s' => True ∧ sp_law_wrong [w] s' (fun x s1 => 0 ≤ sizeLine ∧ oEq false x (.lst []) s1 (fun w_1 s1 => match w_1 with | .bl b => if b = true then gcQ s q w s1 else gcQ s q (netW N) s1 | _ => False)) (fun k fs s' => gcX s e k fs s')) (fun k fs s' => gcX s e k fs s') := by
    intro N as b1 D hb
    refine ⟨trivial, n, b1 - 3, N, rfl, by rw [hset]; congr 2; omega, D.valid, fun N' V' en eb el => ?_⟩
    rw [List.set_set]
    refine ⟨trivial, N', rfl, V', by show 0 ≤ sizeLine; omega, eq_gs_nil ?_⟩
    have fin : ∀ N', Valid N' → Even N' → gcQ s q (netW N') (s.set n (.orc (b1 - 3))) := fun N' V E => by
      have := gcQ.draw (s := s) (junk := []) (q := q) (w := netW N') (w0 := netW N') (b := b) (b1 := b1 - 3) hn (by omega) (frz_net N') (h N' V E)
      rwa [List.append_nil] at this
    by_cases c : wrongL N' = []
    · simp only [c, decide_true, Bool.false_bne, if_true]
      exact fin N' V' (even_of_wrong V' c)
    · simp only [c, decide_false, Bool.false_bne, Bool.false_eq_true, if_false]
      exact fin N D.valid D.even
  refine ⟨trivial, n, b + 1999, 8, rfl, by rw [hn], by omega, by unfold Bd; decide, fun v v0 v1 => ?_⟩
  simp only [eq_int, Bool.false_bne, add_int]
  by_cases c : v = 0
  · simp only [c, decide_true, if_true]
    refine ⟨trivial, n, b + 1998, 5, rfl, hset, by omega, by unfold Bd; decide, fun r r0 r1 => ?_⟩
    rw [List.set_set]
    simp only [add_int]
    refine ⟨trivial, n, b + 1997, 12, rfl, hset, by omega, by unfold Bd; decide, fun k k0 k1 => ?_⟩
    rw [List.set_set]
    obtain ⟨j, hj⟩ : ∃ j : Nat, 6 + r = (j : Int) := ⟨(6 + r).toNat, by omega⟩
    obtain ⟨i, hi⟩ : ∃ i : Nat, k = (i : Int) := ⟨k.toNat, by omega⟩
    rw [hj, hi]
    refine ⟨trivial, n, b + 1997 - (1 + 84 * j + 35 * i), 24, j, i, rfl, by rw [hset]; congr 2; omega, by omega, by omega, by omega, by omega, by omega, fun N as D en => ?_⟩
    rw [List.set_set]
    simp only [dx0]
    exact part N as (b + 1997 - (1 + 84 * j + 35 * i)) D (by omega)
  · simp only [c, decide_false, Bool.false_eq_true, if_false]
    refine ⟨trivial, n, b + 1998, 8, rfl, hset, by omega, by unfold Bd; decide, fun r r0 r1 => ?_⟩
    rw [List.set_set]
    simp only [add_int]
    refine ⟨trivial, n, b + 1997, 7, rfl, hset, by omega, by unfold Bd; decide, fun k k0 k1 => ?_⟩
    rw [List.set_set]
    refine ⟨trivial, n, b + 1996, 5, rfl, hset, by omega, by unfold Bd; decide, fun l l0 l1 => ?_⟩
    rw [List.set_set]
    obtain ⟨j, hj⟩ : ∃ j : Nat, 1 + r = (j : Int) := ⟨(1 + r).toNat, by omega⟩
    obtain ⟨i, hi⟩ : ∃ i : Nat, k = (i : Int) := ⟨k.toNat, by omega⟩
    obtain ⟨i2, hi2⟩ : ∃ i : Nat, l = (i : Int) := ⟨l.toNat, by omega⟩
    rw [hj, hi, hi2]
    refine ⟨trivial, n, b + 1996 - (1 + 84 * i + 35 * i2), j, i, i2, rfl, by rw [hset]; congr 2; omega, by omega, by omega, by omega, by omega, by omega, fun N as D en => ?_⟩
    rw [List.set_set]
    simp only [dx0]
    exact part N as (b + 1996 - (1 + 84 * i + 35 * i2)) D (by omega)
end Fw

set_option maxRecDepth 100000
set_option maxHeartbeats 4000000
namespace Fw
open PySem PySem.Spec PyProof.Rows L2

/-! ## _law_sides_right, _law_is_even -/
theorem repr_of {w : W} {d : PyData} {k h : Nat} {s : S} {q : QW} (hd : datS s w = some d) (z : Sz d k h) (hk : k ≤ 1048576) (hh : h ≤ 64) (hp : isDisplay d = true) (p : q (.str d.shown) s) : oRepr [w] s q := by
  unfold oRepr
  simp only [hd]
  exact ⟨z.okShow hk hh hp, p⟩
theorem dat_ti {is : List Int} {s : S} : datS s (.tup (is.map W.int)) = some (.tuple (is.map PyData.int)) := by
  show (dats _ (is.map W.int)).map PyData.tuple = _
  rw [dats_ints]; rfl
theorem dat_li {is : List Int} {s : S} : datS s (.lst (is.map W.int)) = some (.list (is.map PyData.int)) := by
  show (dats _ (is.map W.int)).map PyData.list = _
  rw [dats_ints]; rfl
def Small (is : List Int) : Prop := is.length ≤ 1000 ∧ ∀ i ∈ is, -1000000000000 < i ∧ i < 10000000000000
theorem repr_ti {is : List Int} {s : S} {q : QW} (h : Small is) (p : q (.str (PyData.tuple (is.map PyData.int)).shown) s) : oRepr [.tup (is.map W.int)] s q :=
  repr_of dat_ti (sz_tup (sz_ints (h := 0) h.2)) (by have := h.1; omega) (by omega) rfl p
theorem repr_li {is : List Int} {s : S} {q : QW} (h : Small is) (p : q (.str (PyData.list (is.map PyData.int)).shown) s) : oRepr [.lst (is.map W.int)] s q :=
  repr_of dat_li (sz_lst (sz_ints (h := 0) h.2)) (by have := h.1; omega) (by omega) rfl p
theorem resV_range {N : Net} (V : Valid N) {a : Pipe × Nat} (ha : a ∈ enP N.ps) : 0 ≤ resV N a ∧ resV N a < N.b := by
  cases ho : a.1.op with
  | true => rw [resV_open ho]; exact tot_range V _
  | false => rw [resV_shut ho]; exact shown_ok (V.ok _ (List.fst_mem_of_mem_zipIdx ha)) V.b2
theorem resL_small {N : Net} (V : Valid N) : Small (resL N) := by
  have := V.len
  have := V.b6
  refine ⟨by simp [resL]; omega, fun i hi => ?_⟩
  obtain ⟨a, ha, rfl⟩ := List.mem_map.mp hi
  have := resV_range V ha
  omega
theorem resL_get {N : Net} {i : Nat} {p : Pipe} (hp : N.ps[i]? = some p) : (resL N)[i]? = some (resV N (p, i)) := by
  unfold resL; rw [List.getElem?_map, List.getElem?_zipIdx, hp]; simp
def sp_law_sides_right : FT := fun ws s q _ => ∃ N i p, ws = [netW N, .tup ((resL N).map W.int), .int (i : Nat)] ∧ Valid N ∧ Even N ∧ N.ps[i]? = some p ∧ p.op = true ∧ q (.bl true) s
theorem ok_law_sides_right : ∀ ws s q e, sp_law_sides_right ws s q e → fnM 8 (t_law_sides_right sp_law_joined sp_law_total sp_residues sp_law_turned) ws s q e := by
  rintro ws s q e ⟨N, i, p, rfl, V, E, hp, ho, h⟩
  have hi := (List.getElem?_eq_some_iff.mp hp).1
  have hl := V.len
  have b2 := V.b2
  have hrl : (resL N).length = N.ps.length := by simp [resL]
  obtain ⟨e1, e2⟩ := V.endsE (en_mem hp)
  have hv := resL_get hp
  have hr := resV_range V (en_mem hp)
  obtain ⟨o1, o2⟩ := other_side V E (en_mem hp) ho
  have ex1 : ∀ (s : S) (q : QW), q (.int (resV N (p, i))) s → oIx (.tup ((resL N).map W.int)) (.int (i : Int)) s q := fun s q k => ix_ints rfl hv k
  have ix : ∀ (s : S) (q : QW), q (pW p) s → oIx (.tup (N.ps.map pW)) (.int (i : Int)) s q := fun s q k => ix_pipe hp k
  simp only [↓u_fnM, ↓u_mSeq, ↓u_mIfS, ↓u_mRet, ↓u_mRetN, ↓u_mSet, ↓u_mExpr, ↓u_mVar, ↓u_mK, ↓u_mBin, ↓u_mUn, ↓u_mChain, ↓u_mT, ↓u_mAnd, ↓u_mOr, ↓u_mNot, ↓u_bAnd, ↓u_bOr, ↓u_bNot, ↓u_mIf, ↓u_mFn, ↓u_mTup, ↓u_mLst, ↓u_mNew, ↓u_mCons, ↓u_mNil, ↓u_mCall, ↓u_mNext, ↓u_mAsg, ↓u_mFor, ↓u_mComp, ↓u_mCompN, ↓u_iSeqM, ↓u_mEnum, ↓u_mZip, ↓u_mPar2, ↓u_mPar3, ↓u_mPut, ↓u_mAug, ↓u_mAugS, ↓u_mBM, ↓u_mBM0, ↓u_mCallK, ↓u_mListRg, ↓u_mListRgN, ↓u_mTupRg, ↓u_mRg1, ↓u_mRg2, ↓u_iRngM1, ↓u_iRngM2, ↓u_pAt, ↓u_pNo, ↓u_mIsi, ↓u_mNever, ↓u_gtTp, ↓u_gtCons, ↓u_gtNil, ↓u_gtNm, ↓u_gtSub, ↓u_mBreak, ↓u_mCont, ↓u_mDisp, ↓u_bYes, ↓u_oI, ↓u_oB, ↓u_oIs, ↓u_oEqT, ↓u_seqT, ↓u_seqL, ↓u_seqS, ↓mSl_eq, slW_tup, slW_lst, List.map_cons, List.map_nil, List.length_cons, List.length_nil, List.cons_append, List.nil_append, List.getElem?_cons_zero, List.getElem?_cons_succ, List.set_cons_zero, List.set_cons_succ, List.replicate, Nat.reduceAdd, Nat.reduceSub, Nat.zero_add, if_true, Bool.false_eq_true, if_false, Bool.true_eq_false, reduceIte, t_law_sides_right, nx0, nx2]
  refine ix _ _ ?_
  simp only [px0, px1]
  refine ⟨trivial, N, p.s, some i, rfl, V, e1, ?_⟩
  refine ⟨trivial, N, p.t, some i, rfl, V, e2, ?_⟩
  refine ex1 _ _ ?_
  refine ⟨by decide, ?_⟩
  have hrep : ∀ (x : Int) (s : S) (q : QW), q (.lst (([x, x] : List Int).map W.int)) s → oRep (.lst [.int x]) (.int 2) s q := fun x s q k => ⟨by decide, by decide, by show 1 * 2 ≤ sizeLine; decide, k⟩
  refine hrep _ _ _ ⟨trivial, N, _, sortN (clo N (some i) p.s), rfl, V, .inr (.inl rfl), ?_⟩
  refine ⟨trivial, N, _, sortN (clo N (some i) p.t), rfl, V, .inr (.inl rfl), ?_⟩
  rw [tot_sort, tot_sort]
  have t1 : tot N (clo N (some i) p.s) = resV N (p, i) := (resV_open (a := (p, i)) ho).symm
  simp only [u_oI, t1]
  refine ⟨trivial, by omega, by decide, ?_⟩
  refine eq_ints (xs := [resV N (p, i), resV N (p, i)]) (ys := [resV N (p, i), (0 - tot N (clo N (some i) p.t)) % N.b]) ?_
  have o2' : (0 - tot N (clo N (some i) p.t)) % N.b = resV N (p, i) := o2
  rw [o2']
  simp only [decide_true, bne_self_eq_false, Bool.false_eq_true, if_false]
  refine ex1 _ _ ?_
  have c1 : cutW ((resL N).map W.int) none (some (i : Int)) = ((resL N).take i).map W.int := by rw [cut_to (by simp; omega), List.map_take]
  have c2 : cutW ((resL N).map W.int) (some ((i : Int) + 1)) none = ((resL N).drop (i + 1)).map W.int := by
    rw [show ((i : Int) + 1) = ((i + 1 : Nat) : Int) by omega, cut_from (by simp; omega), List.map_drop]
  simp only [u_oI, add_tup, add_int, c1, c2]
  refine ⟨trivial, by omega, by decide, leW _ (by simp; omega), leW _ (by simp; omega), ?_⟩
  refine ⟨trivial, N, i, p, rfl, hl, hp, ?_⟩
  cases hL : treesOf N.n N.ops with
  | none => exact absurd hL V.tree
  | some L =>
    have V' := turn_valid hp V
    have E' := turn_even hp V E ho
    have hL' : treesOf (turnN N i p).n (turnN N i p).ops = some L := by rw [turn_trees hp]; exact hL
    refine ⟨trivial, turnN N i p, L, rfl, V', hL', E'.bal V' hL', ?_⟩
    refine repr_ti (resL_small V') ?_
    rw [turn_res hp V E ho]
    have e0 : ((resL N).take i).map W.int ++ [.int ((0 - resV N (p, i)) % N.b)] ++ ((resL N).drop (i + 1)).map W.int = ((resL N).take i ++ [(0 - resV N (p, i)) % N.b] ++ (resL N).drop (i + 1)).map W.int := by simp
    rw [e0]
    refine repr_ti ?_ ?_
    · rw [← turn_res hp V E ho]; exact resL_small V'
    · simp only [u_oEqT, decide_true, Bool.false_bne]
      exact h
/-- the sum of some residues -/
theorem sum_res {N : Net} {A : List Nat} {c : Pipe → Bool} {r : Lv} {s : S} {i : Nat} {q : QW} (is : List Nat) (hi : i < r.length) (hl : is.length ≤ 1000) (hr : ∀ x, (r.set i x)[1]? = some (some (.tup ((resL N).map W.int)))) (hm : ∀ k ∈ is, k < N.ps.length) (h : q (.int ((is.map (resI N)).sum)) s) :
    compL (.nm i) bYes (mBin oIx (mVar 1) (mVar i)) r [] (nW is) [] s (fun ws s2 => oSum [.lst ws] s2 q) := by
  refine compL_map (fun (k : Nat) => W.int (k : Int)) (fun k => some (.int (resI N k))) is [] (fun k hk => ⟨_, rfl, fun _ _ k => k, fun y hy k' e hk' => ?_⟩) (by simp only [List.length_nil]; exact leW _ (by omega)) (fun _ h => by simp at h) ?_
  · cases hy
    have hk := hm k hk
    have e1 : (r.set i (some (W.int (k : Int))))[i]? = some (some (.int (k : Int))) := List.getElem?_set_self hi
    simp only [↓u_fnM, ↓u_mSeq, ↓u_mIfS, ↓u_mRet, ↓u_mRetN, ↓u_mSet, ↓u_mExpr, ↓u_mVar, ↓u_mK, ↓u_mBin, ↓u_mUn, ↓u_mChain, ↓u_mT, ↓u_mAnd, ↓u_mOr, ↓u_mNot, ↓u_bAnd, ↓u_bOr, ↓u_bNot, ↓u_mIf, ↓u_mFn, ↓u_mTup, ↓u_mLst, ↓u_mNew, ↓u_mCons, ↓u_mNil, ↓u_mCall, ↓u_mNext, ↓u_mAsg, ↓u_mFor, ↓u_mComp, ↓u_mCompN, ↓u_iSeqM, ↓u_mEnum, ↓u_mZip, ↓u_mPar2, ↓u_mPar3, ↓u_mPut, ↓u_mAug, ↓u_mAugS, ↓u_mBM, ↓u_mBM0, ↓u_mCallK, ↓u_mListRg, ↓u_mListRgN, ↓u_mTupRg, ↓u_mRg1, ↓u_mRg2, ↓u_iRngM1, ↓u_iRngM2, ↓u_pAt, ↓u_pNo, ↓u_mIsi, ↓u_mNever, ↓u_gtTp, ↓u_gtCons, ↓u_gtNil, ↓u_gtNm, ↓u_gtSub, ↓u_mBreak, ↓u_mCont, ↓u_mDisp, ↓u_bYes, ↓u_oI, ↓u_oB, ↓u_oIs, ↓u_oEqT, ↓u_seqT, ↓u_seqL, ↓u_seqS, ↓mSl_eq, slW_tup, slW_lst, List.map_cons, List.map_nil, List.length_cons, List.length_nil, List.cons_append, List.nil_append, List.getElem?_cons_zero, List.getElem?_cons_succ, List.set_cons_zero, List.set_cons_succ, List.replicate, Nat.reduceAdd, Nat.reduceSub, Nat.zero_add, if_true, Bool.false_eq_true, if_false, Bool.true_eq_false, reduceIte, e1, hr]
    have ek : N.ps[k]? = some N.ps[k] := List.getElem?_eq_getElem hk
    have : resI N k = resV N (N.ps[k], k) := by unfold resI; rw [ek]
    rw [this] at hk'
    exact ix_ints rfl (resL_get ek) hk'
  · have e0 : ([] : List W) ++ is.filterMap (fun k => some (W.int (resI N k))) = (is.map (resI N)).map W.int := by
      rw [List.nil_append, List.map_map, ← List.filterMap_eq_map]; rfl
    rw [e0]
    unfold oSum liOf lstOf
    simp only [Option.bind_some, intsOf_ints]
    exact h
def sp_law_is_even : FT := fun ws s q _ => ∃ N w A, ws = [netW N, .tup ((resL N).map W.int), w] ∧ Valid N ∧ Even N ∧ NatSeq w s A ∧ q (.bl true) s
theorem ok_law_is_even : ∀ ws s q e, sp_law_is_even ws s q e → fnM 5 (t_law_is_even sp_law_ins sp_law_outs) ws s q e := by
  rintro ws s q e ⟨N, w, A, rfl, V, E, hA, h⟩
  have b2 := V.b2
  simp only [↓u_fnM, ↓u_mSeq, ↓u_mIfS, ↓u_mRet, ↓u_mRetN, ↓u_mSet, ↓u_mExpr, ↓u_mVar, ↓u_mK, ↓u_mBin, ↓u_mUn, ↓u_mChain, ↓u_mT, ↓u_mAnd, ↓u_mOr, ↓u_mNot, ↓u_bAnd, ↓u_bOr, ↓u_bNot, ↓u_mIf, ↓u_mFn, ↓u_mTup, ↓u_mLst, ↓u_mNew, ↓u_mCons, ↓u_mNil, ↓u_mCall, ↓u_mNext, ↓u_mAsg, ↓u_mFor, ↓u_mComp, ↓u_mCompN, ↓u_iSeqM, ↓u_mEnum, ↓u_mZip, ↓u_mPar2, ↓u_mPar3, ↓u_mPut, ↓u_mAug, ↓u_mAugS, ↓u_mBM, ↓u_mBM0, ↓u_mCallK, ↓u_mListRg, ↓u_mListRgN, ↓u_mTupRg, ↓u_mRg1, ↓u_mRg2, ↓u_iRngM1, ↓u_iRngM2, ↓u_pAt, ↓u_pNo, ↓u_mIsi, ↓u_mNever, ↓u_gtTp, ↓u_gtCons, ↓u_gtNil, ↓u_gtNm, ↓u_gtSub, ↓u_mBreak, ↓u_mCont, ↓u_mDisp, ↓u_bYes, ↓u_oI, ↓u_oB, ↓u_oIs, ↓u_oEqT, ↓u_seqT, ↓u_seqL, ↓u_seqS, ↓mSl_eq, slW_tup, slW_lst, List.map_cons, List.map_nil, List.length_cons, List.length_nil, List.cons_append, List.nil_append, List.getElem?_cons_zero, List.getElem?_cons_succ, List.set_cons_zero, List.set_cons_succ, List.replicate, Nat.reduceAdd, Nat.reduceSub, Nat.zero_add, if_true, Bool.false_eq_true, if_false, Bool.true_eq_false, reduceIte, t_law_is_even]
  refine ⟨trivial, N, w, A, rfl, V.len, hA, ?_⟩
  simp only [u_seqL]
  refine sum_res (N := N) (A := A) (c := entC A) (idxs N.ps (entC A)) (by simp [wipeL]) ?_ (fun _ => rfl) (fun k hk => idxs_lt hk) ?_
  · have : (idxs N.ps (entC A)).length ≤ N.ps.length := by
      unfold idxs; rw [List.length_map]
      exact Nat.le_trans (List.length_filter_le _ _) (by simp [enP])
    have := V.len
    omega
  refine ⟨trivial, N, w, A, rfl, V.len, hA, ?_⟩
  simp only [u_seqL]
  refine sum_res (N := N) (A := A) (c := leaC A) (idxs N.ps (leaC A)) (by simp [wipeL]) ?_ (fun _ => rfl) (fun k hk => idxs_lt hk) ?_
  · have : (idxs N.ps (leaC A)).length ≤ N.ps.length := by
      unfold idxs; rw [List.length_map]
      exact Nat.le_trans (List.length_filter_le _ _) (by simp [enP])
    have := V.len
    omega
  simp only [u_oI, nx0, eq_int]
  refine ⟨trivial, by omega, ?_⟩
  have e := even_all V E A
  rw [← cut_idxs] at e
  have e0 := Int.emod_eq_zero_of_dvd e
  rw [e0]
  exact h
end Fw

set_option maxRecDepth 100000
set_option maxHeartbeats 4000000
namespace Fw
open PySem PySem.Spec PyProof.Rows L2

/-! ## _law_right -/
theorem eq_tnn {xs : List Nat} {s : S} {q : QW} {neg : Bool} (k : q (.bl (neg != true)) s) : oEq neg (.tup (nW xs)) (.tup (nW xs)) s q := by
  have hd : datS s (.tup (nW xs)) = some (.tuple (xs.map fun (i : Nat) => PyData.int (i : Int))) := by
    show (dats _ (nW xs)).map PyData.tuple = _
    rw [dats_nats]; rfl
  unfold oEq
  rw [hd]
  have h1 : SeqAt.shaped (.tuple (xs.map fun (i : Nat) => PyData.int (i : Int))) = true := by rw [nats_ints, shaped_tuple_ints]
  have h3 : PyData.eqv (.tuple (xs.map fun (i : Nat) => PyData.int (i : Int))) (.tuple (xs.map fun (i : Nat) => PyData.int (i : Int))) = true := by
    rw [nats_ints]
    show PyData.eqvAll _ _ = true
    rw [eqvAll_ints]; simp
  simp only [h1, h3, Bool.and_self, true_and]
  exact k
/-- a comprehension that finds nothing -/
theorem comp_none {α : Type} {f : α → W} {r : Lv} {s : S} {i : Nat} {tt : BT} {te : ET} {l : Live} {q : List W → S → Prop} (as : List α) (hl : as.length ≤ 1000) (hk : okL l s)
    (ht : ∀ a ∈ as, ∀ (k : Bool → S → Prop) e, k false s → tt (r.set i (some (f a))) s k e) (h : q [] s) : compL (.nm i) tt te r l (as.map f) [] s q := by
  refine compL_map f (fun _ => none) as [] (fun a ha => ⟨_, rfl, fun k e hk => ht a ha k e (by simpa using hk), fun y hy => by cases hy⟩) (by simp only [List.length_nil]; exact leW _ (by omega)) hk ?_
  have : as.filterMap (fun _ => (none : Option W)) = [] := by simp
  rw [this]; exact h
theorem idxs_len {ps : List Pipe} {c : Pipe → Bool} : (idxs ps c).length ≤ ps.length := by
  unfold idxs; rw [List.length_map]
  exact Nat.le_trans (List.length_filter_le _ _) (by simp [enP])
/-- some places are drawn -/
theorem comp_draw {J : S} {s : S} {n i : Nat} {r : Lv} {q : List W → S → Prop} (hn : n < s.length) (hi : i < r.length) (h0 : ∀ x, (r.set i x)[0]? = some (some (.ref n))) : ∀ (xs : List Nat) (acc : List Nat) (b : Nat), xs.length ≤ b → acc.length + xs.length ≤ 1000 →
    (∀ ys, q (nW ys) (s.set n (.orc (b - xs.length)) ++ J)) →
    compL (.nm i) (mT (mBin (oEq false) (mCall sp_law_draw 2 (mCons (mVar 0) (mCons (mK (.int 2)) mNil))) (mK (.int 0)))) (mVar i) r [] (nW xs) (nW acc) (s.set n (.orc b) ++ J) q
  | [], acc, b, _, _, h => ⟨fun _ h => by simp at h, by simpa using h acc⟩
  | x :: xs, acc, b, hb, hl, h => by
    refine ⟨fun _ h => by simp at h, ?_⟩
    have hb' : xs.length + 1 ≤ b := by simpa using hb
    have hl' : acc.length + (xs.length + 1) ≤ 1000 := by simpa using hl
    have e1 : ∀ y : Option W, (r.set i y)[i]? = some y := fun y => List.getElem?_set_self hi
    simp only [asg]
    simp only [↓u_fnM, ↓u_mSeq, ↓u_mIfS, ↓u_mRet, ↓u_mRetN, ↓u_mSet, ↓u_mExpr, ↓u_mVar, ↓u_mK, ↓u_mBin, ↓u_mUn, ↓u_mChain, ↓u_mT, ↓u_mAnd, ↓u_mOr, ↓u_mNot, ↓u_bAnd, ↓u_bOr, ↓u_bNot, ↓u_mIf, ↓u_mFn, ↓u_mTup, ↓u_mLst, ↓u_mNew, ↓u_mCons, ↓u_mNil, ↓u_mCall, ↓u_mNext, ↓u_mAsg, ↓u_mFor, ↓u_mComp, ↓u_mCompN, ↓u_iSeqM, ↓u_mEnum, ↓u_mZip, ↓u_mPar2, ↓u_mPar3, ↓u_mPut, ↓u_mAug, ↓u_mAugS, ↓u_mBM, ↓u_mBM0, ↓u_mCallK, ↓u_mListRg, ↓u_mListRgN, ↓u_mTupRg, ↓u_mRg1, ↓u_mRg2, ↓u_iRngM1, ↓u_iRngM2, ↓u_pAt, ↓u_pNo, ↓u_mIsi, ↓u_mNever, ↓u_gtTp, ↓u_gtCons, ↓u_gtNil, ↓u_gtNm, ↓u_gtSub, ↓u_mBreak, ↓u_mCont, ↓u_mDisp, ↓u_bYes, ↓u_oI, ↓u_oB, ↓u_oIs, ↓u_oEqT, ↓u_seqT, ↓u_seqL, ↓u_seqS, ↓mSl_eq, slW_tup, slW_lst, List.map_cons, List.map_nil, List.length_cons, List.length_nil, List.cons_append, List.nil_append, List.getElem?_cons_zero, List.getElem?_cons_succ, List.set_cons_zero, List.set_cons_succ, List.replicate, Nat.reduceAdd, Nat.reduceSub, Nat.zero_add, if_true, Bool.false_eq_true, if_false, Bool.true_eq_false, reduceIte, h0, e1]
    refine ⟨trivial, n, b - 1, 2, rfl, by rw [orc_get hn]; congr 2; omega, by omega, by unfold Bd; decide, fun v v0 v1 => ?_⟩
    rw [orc_set hn]
    simp only [eq_int, Bool.false_bne]
    by_cases c : v = 0
    · simp only [c, decide_true, if_true]
      refine ⟨by rw [List.length_map, sizeLine_eq]; omega, ?_⟩
      have := comp_draw (J := J) (r := r) (q := q) hn hi h0 xs (acc ++ [x]) (b - 1) (by omega) (by simp; omega) fun ys => by
        have := h ys
        rw [show b - (x :: xs).length = b - 1 - xs.length by simp; omega] at this
        exact this
      have e2 : nW (acc ++ [x]) = nW acc ++ [W.int (x : Int)] := by simp
      rw [e2] at this
      exact this
    · simp only [c, decide_false, Bool.false_eq_true, if_false]
      exact comp_draw hn hi h0 xs acc (b - 1) (by omega) (by omega) fun ys => by
        have := h ys
        rw [show b - (x :: xs).length = b - 1 - xs.length by simp; omega] at this
        exact this
theorem sets_loop {s : S} {n : Nat} {c : Cn} {N : Net} {x2 x3 x4 x5 x6 x7 x10 : Option W} (hn : n < s.length) (n24 : N.n ≤ 24) : ∀ (ks : List Nat) (gs : List (List Nat)) (b : Nat) (x9 : Option W), 24 * ks.length ≤ b → gs.length + ks.length ≤ 1000 →
    (∀ gs' b' x9, gs'.length = gs.length + ks.length → b ≤ b' + 24 * ks.length → c.nx [some (.ref n), some (netW N), x2, x3, x4, x5, x6, x7, some (.ref (s.length + 0)), x9, x10] (s.set n (.orc b') ++ [.lst (gW gs')])) →
    forL (.nm 9) (t_law_right_b1 sp_residues sp_is_open_pipe sp_law_sides_right sp_open_pipes sp_law_shown sp_group_sums sp_law_draw sp_law_is_even) [] (nW ks) [some (.ref n), some (netW N), x2, x3, x4, x5, x6, x7, some (.ref (s.length + 0)), x9, x10] (s.set n (.orc b) ++ [.lst (gW gs)]) c
  | [], gs, b, x9, _, _, h => ⟨fun _ h => by simp at h, h gs b x9 (by simp) (by simp)⟩
  | k :: ks, gs, b, x9, hb, hl, h => by
    refine ⟨fun _ h => by simp at h, ?_⟩
    have hb' : 24 * (ks.length + 1) ≤ b := by simpa using hb
    have hl' : gs.length + (ks.length + 1) ≤ 1000 := by simpa using hl
    have hA : ∀ j, (s.set n (.orc j)).length = s.length := by simp
    simp only [asg, List.set_cons_succ, List.set_cons_zero]
    generalize hcc : Cn.mk _ _ _ _ _ = c'
    simp only [↓u_fnM, ↓u_mSeq, ↓u_mIfS, ↓u_mRet, ↓u_mRetN, ↓u_mSet, ↓u_mExpr, ↓u_mVar, ↓u_mK, ↓u_mBin, ↓u_mUn, ↓u_mChain, ↓u_mT, ↓u_mAnd, ↓u_mOr, ↓u_mNot, ↓u_bAnd, ↓u_bOr, ↓u_bNot, ↓u_mIf, ↓u_mFn, ↓u_mTup, ↓u_mLst, ↓u_mNew, ↓u_mCons, ↓u_mNil, ↓u_mCall, ↓u_mNext, ↓u_mAsg, ↓u_mFor, ↓u_mComp, ↓u_mCompN, ↓u_iSeqM, ↓u_mEnum, ↓u_mZip, ↓u_mPar2, ↓u_mPar3, ↓u_mPut, ↓u_mAug, ↓u_mAugS, ↓u_mBM, ↓u_mBM0, ↓u_mCallK, ↓u_mListRg, ↓u_mListRgN, ↓u_mTupRg, ↓u_mRg1, ↓u_mRg2, ↓u_iRngM1, ↓u_iRngM2, ↓u_pAt, ↓u_pNo, ↓u_mIsi, ↓u_mNever, ↓u_gtTp, ↓u_gtCons, ↓u_gtNil, ↓u_gtNm, ↓u_gtSub, ↓u_mBreak, ↓u_mCont, ↓u_mDisp, ↓u_bYes, ↓u_oI, ↓u_oB, ↓u_oIs, ↓u_oEqT, ↓u_seqT, ↓u_seqL, ↓u_seqS, ↓mSl_eq, slW_tup, slW_lst, List.map_cons, List.map_nil, List.length_cons, List.length_nil, List.cons_append, List.nil_append, List.getElem?_cons_zero, List.getElem?_cons_succ, List.set_cons_zero, List.set_cons_succ, List.replicate, Nat.reduceAdd, Nat.reduceSub, Nat.zero_add, if_true, Bool.false_eq_true, if_false, Bool.true_eq_false, reduceIte, t_law_right_b1, nx1]
    refine ⟨isLst_at (i := 0) (xs := gW gs) (hA _) rfl, ⟨by omega, by omega⟩, ?_⟩
    rw [show ((N.n : Int)).toNat = N.n by omega, rangeW_map]
    refine comp_draw (J := [.lst (gW gs)]) hn (by simp [wipeL]) (fun _ => rfl) (List.range N.n) [] b (by simp; omega) (by simp; omega) fun ys => ?_
    simp only [tup_l]
    refine append_at (i := 0) (xs := gW gs) (hA _) rfl (by simp [sizeLine_eq]; omega) ?_
    subst hcc
    have := sets_loop (s := s) (n := n) (c := c) (N := N) (x2 := x2) (x3 := x3) (x4 := x4) (x5 := x5) (x6 := x6) (x7 := x7) (x10 := x10) hn n24 ks (gs ++ [ys]) (b - N.n) (some (.int (k : Int))) (by omega) (by simp; omega) fun gs' b' x9 h1 h2 => h gs' b' x9 (by simp at h1 ⊢; omega) (by simp; omega)
    rw [List.length_range]
    have e : ([Cell.lst (gW gs)] : S).set 0 (.lst (gW gs ++ [.tup (nW ys)])) = [.lst (gW (gs ++ [ys]))] := by simp
    rw [e]
    exact this
def sp_law_right : FT := fun ws s q _ => ∃ n b N, ws = [.ref n, netW N] ∧ s[n]? = some (.orc (b + 192)) ∧ Valid N ∧ Even N ∧ q (.bl true) (s.set n (.orc b))
theorem ok_law_right : ∀ ws s q e, sp_law_right ws s q e → gc (fnM 11 (t_law_right sp_residues sp_is_open_pipe sp_law_sides_right sp_open_pipes sp_law_shown sp_group_sums sp_law_draw sp_law_is_even)) ws s q e := by
  rintro ws s q e ⟨n, b, N, rfl, hn, V, E, h⟩
  have hlt := (List.getElem?_eq_some_iff.mp hn).1
  have hl := V.len
  have n24 := V.n24
  have b2 := V.b2
  show fnM 11 (t_law_right sp_residues sp_is_open_pipe sp_law_sides_right sp_open_pipes sp_law_shown sp_group_sums sp_law_draw sp_law_is_even) _ s _ _
  cases hL : treesOf N.n N.ops with
  | none => exact absurd hL V.tree
  | some L =>
  have B := E.bal V hL
  have wl : (idxs N.ps Pipe.op).length ≤ 60 := Nat.le_trans idxs_len hl
  simp only [↓u_fnM, ↓u_mSeq, ↓u_mIfS, ↓u_mRet, ↓u_mRetN, ↓u_mSet, ↓u_mExpr, ↓u_mVar, ↓u_mK, ↓u_mBin, ↓u_mUn, ↓u_mChain, ↓u_mT, ↓u_mAnd, ↓u_mOr, ↓u_mNot, ↓u_bAnd, ↓u_bOr, ↓u_bNot, ↓u_mIf, ↓u_mFn, ↓u_mTup, ↓u_mLst, ↓u_mNew, ↓u_mCons, ↓u_mNil, ↓u_mCall, ↓u_mNext, ↓u_mAsg, ↓u_mFor, ↓u_mComp, ↓u_mCompN, ↓u_iSeqM, ↓u_mEnum, ↓u_mZip, ↓u_mPar2, ↓u_mPar3, ↓u_mPut, ↓u_mAug, ↓u_mAugS, ↓u_mBM, ↓u_mBM0, ↓u_mCallK, ↓u_mListRg, ↓u_mListRgN, ↓u_mTupRg, ↓u_mRg1, ↓u_mRg2, ↓u_iRngM1, ↓u_iRngM2, ↓u_pAt, ↓u_pNo, ↓u_mIsi, ↓u_mNever, ↓u_gtTp, ↓u_gtCons, ↓u_gtNil, ↓u_gtNm, ↓u_gtSub, ↓u_mBreak, ↓u_mCont, ↓u_mDisp, ↓u_bYes, ↓u_oI, ↓u_oB, ↓u_oIs, ↓u_oEqT, ↓u_seqT, ↓u_seqL, ↓u_seqS, ↓mSl_eq, slW_tup, slW_lst, List.map_cons, List.map_nil, List.length_cons, List.length_nil, List.cons_append, List.nil_append, List.getElem?_cons_zero, List.getElem?_cons_succ, List.set_cons_zero, List.set_cons_succ, List.replicate, Nat.reduceAdd, Nat.reduceSub, Nat.zero_add, if_true, Bool.false_eq_true, if_false, Bool.true_eq_false, reduceIte, t_law_right, nx1, nx2]
  refine ⟨trivial, N, L, rfl, V, hL, B, ?_⟩
  simp only [seqVals, itemsOf, enum_map]
  refine comp_idx (c := Pipe.op) (by decide) (by simp [wipeL]) (by simp [wipeL]) hl (fun a _ k e hk => ?_) ?_
  · simp only [↓u_fnM, ↓u_mSeq, ↓u_mIfS, ↓u_mRet, ↓u_mRetN, ↓u_mSet, ↓u_mExpr, ↓u_mVar, ↓u_mK, ↓u_mBin, ↓u_mUn, ↓u_mChain, ↓u_mT, ↓u_mAnd, ↓u_mOr, ↓u_mNot, ↓u_bAnd, ↓u_bOr, ↓u_bNot, ↓u_mIf, ↓u_mFn, ↓u_mTup, ↓u_mLst, ↓u_mNew, ↓u_mCons, ↓u_mNil, ↓u_mCall, ↓u_mNext, ↓u_mAsg, ↓u_mFor, ↓u_mComp, ↓u_mCompN, ↓u_iSeqM, ↓u_mEnum, ↓u_mZip, ↓u_mPar2, ↓u_mPar3, ↓u_mPut, ↓u_mAug, ↓u_mAugS, ↓u_mBM, ↓u_mBM0, ↓u_mCallK, ↓u_mListRg, ↓u_mListRgN, ↓u_mTupRg, ↓u_mRg1, ↓u_mRg2, ↓u_iRngM1, ↓u_iRngM2, ↓u_pAt, ↓u_pNo, ↓u_mIsi, ↓u_mNever, ↓u_gtTp, ↓u_gtCons, ↓u_gtNil, ↓u_gtNm, ↓u_gtSub, ↓u_mBreak, ↓u_mCont, ↓u_mDisp, ↓u_bYes, ↓u_oI, ↓u_oB, ↓u_oIs, ↓u_oEqT, ↓u_seqT, ↓u_seqL, ↓u_seqS, ↓mSl_eq, slW_tup, slW_lst, List.map_cons, List.map_nil, List.length_cons, List.length_nil, List.cons_append, List.nil_append, List.getElem?_cons_zero, List.getElem?_cons_succ, List.set_cons_zero, List.set_cons_succ, List.replicate, Nat.reduceAdd, Nat.reduceSub, Nat.zero_add, if_true, Bool.false_eq_true, if_false, Bool.true_eq_false, reduceIte, wipeL]
    exact ⟨trivial, a.1, rfl, hk⟩
  refine ⟨by show 2 ≤ sizeLine; decide, rfl, trivial, ?_⟩
  simp only [tyNm, pickL]
  rw [if_neg (by decide)]
  refine ⟨trivial, rfl, N, L, rfl, V, hL, B, repr_ti (resL_small V) (repr_ti (resL_small V) ?_)⟩
  simp only [u_oEqT, decide_true, bne_self_eq_false, Bool.false_eq_true, if_false, u_seqL]
  refine comp_none (f := fun (k : Nat) => W.int (k : Int)) (idxs N.ps Pipe.op) (by omega) (fun _ h => by simp at h) (fun k hk k' e' hk' => ?_) ?_
  · obtain ⟨p, hp, ho⟩ := mem_idxs hk
    simp only [↓u_fnM, ↓u_mSeq, ↓u_mIfS, ↓u_mRet, ↓u_mRetN, ↓u_mSet, ↓u_mExpr, ↓u_mVar, ↓u_mK, ↓u_mBin, ↓u_mUn, ↓u_mChain, ↓u_mT, ↓u_mAnd, ↓u_mOr, ↓u_mNot, ↓u_bAnd, ↓u_bOr, ↓u_bNot, ↓u_mIf, ↓u_mFn, ↓u_mTup, ↓u_mLst, ↓u_mNew, ↓u_mCons, ↓u_mNil, ↓u_mCall, ↓u_mNext, ↓u_mAsg, ↓u_mFor, ↓u_mComp, ↓u_mCompN, ↓u_iSeqM, ↓u_mEnum, ↓u_mZip, ↓u_mPar2, ↓u_mPar3, ↓u_mPut, ↓u_mAug, ↓u_mAugS, ↓u_mBM, ↓u_mBM0, ↓u_mCallK, ↓u_mListRg, ↓u_mListRgN, ↓u_mTupRg, ↓u_mRg1, ↓u_mRg2, ↓u_iRngM1, ↓u_iRngM2, ↓u_pAt, ↓u_pNo, ↓u_mIsi, ↓u_mNever, ↓u_gtTp, ↓u_gtCons, ↓u_gtNil, ↓u_gtNm, ↓u_gtSub, ↓u_mBreak, ↓u_mCont, ↓u_mDisp, ↓u_bYes, ↓u_oI, ↓u_oB, ↓u_oIs, ↓u_oEqT, ↓u_seqT, ↓u_seqL, ↓u_seqS, ↓mSl_eq, slW_tup, slW_lst, List.map_cons, List.map_nil, List.length_cons, List.length_nil, List.cons_append, List.nil_append, List.getElem?_cons_zero, List.getElem?_cons_succ, List.set_cons_zero, List.set_cons_succ, List.replicate, Nat.reduceAdd, Nat.reduceSub, Nat.zero_add, if_true, Bool.false_eq_true, if_false, Bool.true_eq_false, reduceIte, wipeL]
    exact ⟨trivial, N, k, p, rfl, V, E, hp, ho, hk'⟩
  refine ⟨by show 0 ≤ sizeLine; omega, ?_⟩
  simp only [eq_l00, bne_self_eq_false, Bool.false_eq_true, if_false]
  refine ⟨trivial, N, rfl, V, ?_⟩
  simp only [tup_l]
  refine eq_tnn ?_
  simp only [bne_self_eq_false, Bool.false_eq_true, if_false]
  refine compL_map eW (fun a => some (.int (resV N a))) (enP N.ps) [] (fun a ha => ⟨_, rfl, fun _ _ k => k, fun y hy k e hk => ?_⟩) (by simp [enP]; exact leW _ (by omega)) (fun _ h => by simp [liveOf] at h) ?_
  · cases hy
    have ga := en_get ha
    simp only [↓u_fnM, ↓u_mSeq, ↓u_mIfS, ↓u_mRet, ↓u_mRetN, ↓u_mSet, ↓u_mExpr, ↓u_mVar, ↓u_mK, ↓u_mBin, ↓u_mUn, ↓u_mChain, ↓u_mT, ↓u_mAnd, ↓u_mOr, ↓u_mNot, ↓u_bAnd, ↓u_bOr, ↓u_bNot, ↓u_mIf, ↓u_mFn, ↓u_mTup, ↓u_mLst, ↓u_mNew, ↓u_mCons, ↓u_mNil, ↓u_mCall, ↓u_mNext, ↓u_mAsg, ↓u_mFor, ↓u_mComp, ↓u_mCompN, ↓u_iSeqM, ↓u_mEnum, ↓u_mZip, ↓u_mPar2, ↓u_mPar3, ↓u_mPut, ↓u_mAug, ↓u_mAugS, ↓u_mBM, ↓u_mBM0, ↓u_mCallK, ↓u_mListRg, ↓u_mListRgN, ↓u_mTupRg, ↓u_mRg1, ↓u_mRg2, ↓u_iRngM1, ↓u_iRngM2, ↓u_pAt, ↓u_pNo, ↓u_mIsi, ↓u_mNever, ↓u_gtTp, ↓u_gtCons, ↓u_gtNil, ↓u_gtNm, ↓u_gtSub, ↓u_mBreak, ↓u_mCont, ↓u_mDisp, ↓u_bYes, ↓u_oI, ↓u_oB, ↓u_oIs, ↓u_oEqT, ↓u_seqT, ↓u_seqL, ↓u_seqS, ↓mSl_eq, slW_tup, slW_lst, List.map_cons, List.map_nil, List.length_cons, List.length_nil, List.cons_append, List.nil_append, List.getElem?_cons_zero, List.getElem?_cons_succ, List.set_cons_zero, List.set_cons_succ, List.replicate, Nat.reduceAdd, Nat.reduceSub, Nat.zero_add, if_true, Bool.false_eq_true, if_false, Bool.true_eq_false, reduceIte, wipeL]
    refine in_nats (ns := idxs N.ps Pipe.op) (.inr (.inl rfl)) ?_
    have hin : a.2 ∈ idxs N.ps Pipe.op ↔ a.1.op = true := by
      constructor
      · intro z
        obtain ⟨p, hp, ho⟩ := mem_idxs z
        rw [ga] at hp; cases hp; exact ho
      · intro z
        unfold idxs
        exact List.mem_map_of_mem (List.mem_filter.mpr ⟨ha, z⟩)
    cases ho : a.1.op with
    | true =>
      simp only [hin, ho, decide_true, Bool.false_bne, if_true]
      exact ix_ints rfl (resL_get ga) hk
    | false =>
      simp only [hin, ho, Bool.false_eq_true, decide_false, Bool.false_bne, if_false]
      rw [resV_shut ho] at hk
      exact ⟨trivial, N, a.1, rfl, by omega, hk⟩
  have e0 : ([] : List W) ++ (enP N.ps).filterMap (fun a => some (W.int (resV N a))) = (resL N).map W.int := by
    unfold resL
    rw [List.nil_append, List.map_map, ← List.filterMap_eq_map]; rfl
  rw [e0]
  have lst_t : ∀ (xs : List W) (s : S) (q : QW), oList [.tup xs] s q = q (.lst xs) s := fun _ _ _ => propext ⟨fun h => h, fun h => h⟩
  simp only [lst_t]
  refine repr_li (resL_small V) (repr_li (resL_small V) ?_)
  simp only [u_oEqT, decide_true, bne_self_eq_false, Bool.false_eq_true, if_false]
  refine ⟨trivial, N, L, rfl, V, hL, ?_⟩
  simp only [u_seqT]
  have gl : (groupsL N.n L).length ≤ 24 := Nat.le_trans groupsL_len n24
  refine comp_none (f := fun g => W.tup [.tup (nW g), .int (tot N g)]) (groupsL N.n L) (by omega) (fun _ h => by simp at h) (fun g hg k' e' hk' => ?_) ?_
  · have hz := B g hg
    simp only [↓u_fnM, ↓u_mSeq, ↓u_mIfS, ↓u_mRet, ↓u_mRetN, ↓u_mSet, ↓u_mExpr, ↓u_mVar, ↓u_mK, ↓u_mBin, ↓u_mUn, ↓u_mChain, ↓u_mT, ↓u_mAnd, ↓u_mOr, ↓u_mNot, ↓u_bAnd, ↓u_bOr, ↓u_bNot, ↓u_mIf, ↓u_mFn, ↓u_mTup, ↓u_mLst, ↓u_mNew, ↓u_mCons, ↓u_mNil, ↓u_mCall, ↓u_mNext, ↓u_mAsg, ↓u_mFor, ↓u_mComp, ↓u_mCompN, ↓u_iSeqM, ↓u_mEnum, ↓u_mZip, ↓u_mPar2, ↓u_mPar3, ↓u_mPut, ↓u_mAug, ↓u_mAugS, ↓u_mBM, ↓u_mBM0, ↓u_mCallK, ↓u_mListRg, ↓u_mListRgN, ↓u_mTupRg, ↓u_mRg1, ↓u_mRg2, ↓u_iRngM1, ↓u_iRngM2, ↓u_pAt, ↓u_pNo, ↓u_mIsi, ↓u_mNever, ↓u_gtTp, ↓u_gtCons, ↓u_gtNil, ↓u_gtNm, ↓u_gtSub, ↓u_mBreak, ↓u_mCont, ↓u_mDisp, ↓u_bYes, ↓u_oI, ↓u_oB, ↓u_oIs, ↓u_oEqT, ↓u_seqT, ↓u_seqL, ↓u_seqS, ↓mSl_eq, slW_tup, slW_lst, List.map_cons, List.map_nil, List.length_cons, List.length_nil, List.cons_append, List.nil_append, List.getElem?_cons_zero, List.getElem?_cons_succ, List.set_cons_zero, List.set_cons_succ, List.replicate, Nat.reduceAdd, Nat.reduceSub, Nat.zero_add, if_true, Bool.false_eq_true, if_false, Bool.true_eq_false, reduceIte, wipeL]
    have i1 : ∀ (x y : W) (s : S) (q : QW), oIx (.tup [x, y]) (.int 1) s q = q y s := fun _ _ _ _ => propext ⟨fun h => h, fun h => h⟩
    simp only [i1, hz, eq_int, decide_true, bne_self_eq_false]
    exact hk'
  refine ⟨by show 0 ≤ sizeLine; omega, ?_⟩
  simp only [eq_l00, bne_self_eq_false, Bool.false_eq_true, if_false]
  refine ⟨⟨by omega, by omega⟩, ?_⟩
  rw [show ((N.n : Int)).toNat = N.n by omega, rangeW_map]
  refine compL_map (fun (x : Nat) => W.int (x : Int)) (fun x => some (.tup (nW [x]))) (List.range N.n) [] (fun x hx => ⟨_, rfl, fun _ _ k => k, fun y hy k e hk => ?_⟩) (by simp; exact leW _ (by omega)) (fun _ h => by simp at h) ?_
  · cases hy
    simp only [↓u_fnM, ↓u_mSeq, ↓u_mIfS, ↓u_mRet, ↓u_mRetN, ↓u_mSet, ↓u_mExpr, ↓u_mVar, ↓u_mK, ↓u_mBin, ↓u_mUn, ↓u_mChain, ↓u_mT, ↓u_mAnd, ↓u_mOr, ↓u_mNot, ↓u_bAnd, ↓u_bOr, ↓u_bNot, ↓u_mIf, ↓u_mFn, ↓u_mTup, ↓u_mLst, ↓u_mNew, ↓u_mCons, ↓u_mNil, ↓u_mCall, ↓u_mNext, ↓u_mAsg, ↓u_mFor, ↓u_mComp, ↓u_mCompN, ↓u_iSeqM, ↓u_mEnum, ↓u_mZip, ↓u_mPar2, ↓u_mPar3, ↓u_mPut, ↓u_mAug, ↓u_mAugS, ↓u_mBM, ↓u_mBM0, ↓u_mCallK, ↓u_mListRg, ↓u_mListRgN, ↓u_mTupRg, ↓u_mRg1, ↓u_mRg2, ↓u_iRngM1, ↓u_iRngM2, ↓u_pAt, ↓u_pNo, ↓u_mIsi, ↓u_mNever, ↓u_gtTp, ↓u_gtCons, ↓u_gtNil, ↓u_gtNm, ↓u_gtSub, ↓u_mBreak, ↓u_mCont, ↓u_mDisp, ↓u_bYes, ↓u_oI, ↓u_oB, ↓u_oIs, ↓u_oEqT, ↓u_seqT, ↓u_seqL, ↓u_seqS, ↓mSl_eq, slW_tup, slW_lst, List.map_cons, List.map_nil, List.length_cons, List.length_nil, List.cons_append, List.nil_append, List.getElem?_cons_zero, List.getElem?_cons_succ, List.set_cons_zero, List.set_cons_succ, List.replicate, Nat.reduceAdd, Nat.reduceSub, Nat.zero_add, if_true, Bool.false_eq_true, if_false, Bool.true_eq_false, reduceIte, wipeL]
    exact ⟨by show 1 ≤ sizeLine; decide, hk⟩
  have e1 : ([] : List W) ++ (List.range N.n).filterMap (fun x => some (W.tup (nW [x]))) = gW ((List.range N.n).map fun x => [x]) := by
    rw [List.nil_append, gW, List.map_map, ← List.filterMap_eq_map]; rfl
  rw [e1]
  refine ⟨⟨by omega, by omega⟩, ?_⟩
  rw [show (8 : Int).toNat = 8 from rfl, rangeW_map]
  have e2 : s ++ [Cell.lst (gW ((List.range N.n).map fun x => [x]))] = s.set n (.orc (b + 192)) ++ [.lst (gW ((List.range N.n).map fun x => [x]))] := by rw [orc_same hn]
  rw [e2]
  refine sets_loop hlt n24 (List.range 8) ((List.range N.n).map fun x => [x]) (b + 192) none (by simp) (by simp; omega) fun gs b' x9 k1 k2 => ?_
  simp only [List.length_range, List.length_map] at k1 k2
  have hA : (s.set n (.orc b')).length = s.length := by simp
  have hc := cell_at (s := s.set n (.orc b')) (J := [.lst (gW gs)]) (i := 0) (c := .lst (gW gs)) rfl
  rw [hA] at hc
  simp only [↓u_fnM, ↓u_mSeq, ↓u_mIfS, ↓u_mRet, ↓u_mRetN, ↓u_mSet, ↓u_mExpr, ↓u_mVar, ↓u_mK, ↓u_mBin, ↓u_mUn, ↓u_mChain, ↓u_mT, ↓u_mAnd, ↓u_mOr, ↓u_mNot, ↓u_bAnd, ↓u_bOr, ↓u_bNot, ↓u_mIf, ↓u_mFn, ↓u_mTup, ↓u_mLst, ↓u_mNew, ↓u_mCons, ↓u_mNil, ↓u_mCall, ↓u_mNext, ↓u_mAsg, ↓u_mFor, ↓u_mComp, ↓u_mCompN, ↓u_iSeqM, ↓u_mEnum, ↓u_mZip, ↓u_mPar2, ↓u_mPar3, ↓u_mPut, ↓u_mAug, ↓u_mAugS, ↓u_mBM, ↓u_mBM0, ↓u_mCallK, ↓u_mListRg, ↓u_mListRgN, ↓u_mTupRg, ↓u_mRg1, ↓u_mRg2, ↓u_iRngM1, ↓u_iRngM2, ↓u_pAt, ↓u_pNo, ↓u_mIsi, ↓u_mNever, ↓u_gtTp, ↓u_gtCons, ↓u_gtNil, ↓u_gtNm, ↓u_gtSub, ↓u_mBreak, ↓u_mCont, ↓u_mDisp, ↓u_bYes, ↓u_oI, ↓u_oB, ↓u_oIs, ↓u_oEqT, ↓u_seqT, ↓u_seqL, ↓u_seqS, ↓mSl_eq, slW_tup, slW_lst, List.map_cons, List.map_nil, List.length_cons, List.length_nil, List.cons_append, List.nil_append, List.getElem?_cons_zero, List.getElem?_cons_succ, List.set_cons_zero, List.set_cons_succ, List.replicate, Nat.reduceAdd, Nat.reduceSub, Nat.zero_add, if_true, Bool.false_eq_true, if_false, Bool.true_eq_false, reduceIte]
  rw [u_seqR hc]
  refine comp_none (f := fun g => W.tup (nW g)) gs (by omega) (fun p hp => by simp at hp; subst hp; exact hc) (fun g hg k' e' hk' => ?_) ?_
  · simp only [↓u_fnM, ↓u_mSeq, ↓u_mIfS, ↓u_mRet, ↓u_mRetN, ↓u_mSet, ↓u_mExpr, ↓u_mVar, ↓u_mK, ↓u_mBin, ↓u_mUn, ↓u_mChain, ↓u_mT, ↓u_mAnd, ↓u_mOr, ↓u_mNot, ↓u_bAnd, ↓u_bOr, ↓u_bNot, ↓u_mIf, ↓u_mFn, ↓u_mTup, ↓u_mLst, ↓u_mNew, ↓u_mCons, ↓u_mNil, ↓u_mCall, ↓u_mNext, ↓u_mAsg, ↓u_mFor, ↓u_mComp, ↓u_mCompN, ↓u_iSeqM, ↓u_mEnum, ↓u_mZip, ↓u_mPar2, ↓u_mPar3, ↓u_mPut, ↓u_mAug, ↓u_mAugS, ↓u_mBM, ↓u_mBM0, ↓u_mCallK, ↓u_mListRg, ↓u_mListRgN, ↓u_mTupRg, ↓u_mRg1, ↓u_mRg2, ↓u_iRngM1, ↓u_iRngM2, ↓u_pAt, ↓u_pNo, ↓u_mIsi, ↓u_mNever, ↓u_gtTp, ↓u_gtCons, ↓u_gtNil, ↓u_gtNm, ↓u_gtSub, ↓u_mBreak, ↓u_mCont, ↓u_mDisp, ↓u_bYes, ↓u_oI, ↓u_oB, ↓u_oIs, ↓u_oEqT, ↓u_seqT, ↓u_seqL, ↓u_seqS, ↓mSl_eq, slW_tup, slW_lst, List.map_cons, List.map_nil, List.length_cons, List.length_nil, List.cons_append, List.nil_append, List.getElem?_cons_zero, List.getElem?_cons_succ, List.set_cons_zero, List.set_cons_succ, List.replicate, Nat.reduceAdd, Nat.reduceSub, Nat.zero_add, if_true, Bool.false_eq_true, if_false, Bool.true_eq_false, reduceIte, wipeL]
    exact ⟨trivial, N, _, g, rfl, V, E, .inl rfl, hk'⟩
  refine ⟨by show 0 ≤ sizeLine; omega, ?_⟩
  simp only [eq_l00, Bool.false_bne]
  exact gcQ.draw hn (by omega) .bl h
end Fw

set_option maxRecDepth 100000
set_option maxHeartbeats 4000000
namespace Fw
open PySem PySem.Spec PyProof.Rows L2

/-! ## law -/
theorem law_loop {s : S} {c : Cn} {x0 : Option W} : ∀ (ks : List Nat) (b : Nat) (x2 : Option W), 3000 * ks.length ≤ b →
    (∀ b' x2, c.nx [x0, some (.ref s.length), x2] (s ++ [.orc b', .aux])) →
    forL (.nm 2) (t_law_b1 sp_law_begun sp_law_right sp_law_sized_net) [] (nW ks) [x0, some (.ref s.length), x2] (s ++ [.orc b, .aux]) c
  | [], b, x2, _, h => ⟨fun _ h => by simp at h, h b x2⟩
  | k :: ks, b, x2, hb, h => by
    refine ⟨fun _ h => by simp at h, ?_⟩
    have hb' : 3000 * (ks.length + 1) ≤ b := by simpa using hb
    simp only [asg, List.set_cons_succ, List.set_cons_zero]
    generalize hcc : Cn.mk _ _ _ _ _ = c'
    simp only [↓u_fnM, ↓u_mSeq, ↓u_mIfS, ↓u_mRet, ↓u_mRetN, ↓u_mSet, ↓u_mExpr, ↓u_mVar, ↓u_mK, ↓u_mBin, ↓u_mUn, ↓u_mChain, ↓u_mT, ↓u_mAnd, ↓u_mOr, ↓u_mNot, ↓u_bAnd, ↓u_bOr, ↓u_bNot, ↓u_mIf, ↓u_mFn, ↓u_mTup, ↓u_mLst, ↓u_mNew, ↓u_mCons, ↓u_mNil, ↓u_mCall, ↓u_mNext, ↓u_mAsg, ↓u_mFor, ↓u_mComp, ↓u_mCompN, ↓u_iSeqM, ↓u_mEnum, ↓u_mZip, ↓u_mPar2, ↓u_mPar3, ↓u_mPut, ↓u_mAug, ↓u_mAugS, ↓u_mBM, ↓u_mBM0, ↓u_mCallK, ↓u_mListRg, ↓u_mListRgN, ↓u_mTupRg, ↓u_mRg1, ↓u_mRg2, ↓u_iRngM1, ↓u_iRngM2, ↓u_pAt, ↓u_pNo, ↓u_mIsi, ↓u_mNever, ↓u_gtTp, ↓u_gtCons, ↓u_gtNil, ↓u_gtNm, ↓u_gtSub, ↓u_mBreak, ↓u_mCont, ↓u_mDisp, ↓u_bYes, ↓u_oI, ↓u_oB, ↓u_oIs, ↓u_oEqT, ↓u_seqT, ↓u_seqL, ↓u_seqS, ↓mSl_eq, slW_tup, slW_lst, List.map_cons, List.map_nil, List.length_cons, List.length_nil, List.cons_append, List.nil_append, List.getElem?_cons_zero, List.getElem?_cons_succ, List.set_cons_zero, List.set_cons_succ, List.replicate, Nat.reduceAdd, Nat.reduceSub, Nat.zero_add, if_true, Bool.false_eq_true, if_false, Bool.true_eq_false, reduceIte, t_law_b1]
    refine ⟨trivial, s.length, b - 2000, rfl, by rw [get_app1]; congr 2; omega, fun N V E => ?_⟩
    rw [set_app1]
    refine ⟨trivial, s.length, b - 2192, N, rfl, by rw [get_app1]; congr 2; omega, V, E, ?_⟩
    rw [set_app1]
    simp only [Bool.not_true, Bool.false_eq_true, if_false]
    subst hcc
    exact law_loop ks (b - 2192) _ (by omega) h
def sp_law : FT := fun ws s q _ => ∃ is, ws = [.scr is] ∧ is.length ≤ 63 ∧ q (.bl true) s
theorem ok_law : ∀ ws s q e, sp_law ws s q e → gc (fnM 3 (t_law sp_law_begun sp_law_right sp_law_sized_net)) ws s q e := by
  rintro ws s q e ⟨is, rfl, hl, h⟩
  show fnM 3 (t_law sp_law_begun sp_law_right sp_law_sized_net) _ s _ _
  simp only [↓u_fnM, ↓u_mSeq, ↓u_mIfS, ↓u_mRet, ↓u_mRetN, ↓u_mSet, ↓u_mExpr, ↓u_mVar, ↓u_mK, ↓u_mBin, ↓u_mUn, ↓u_mChain, ↓u_mT, ↓u_mAnd, ↓u_mOr, ↓u_mNot, ↓u_bAnd, ↓u_bOr, ↓u_bNot, ↓u_mIf, ↓u_mFn, ↓u_mTup, ↓u_mLst, ↓u_mNew, ↓u_mCons, ↓u_mNil, ↓u_mCall, ↓u_mNext, ↓u_mAsg, ↓u_mFor, ↓u_mComp, ↓u_mCompN, ↓u_iSeqM, ↓u_mEnum, ↓u_mZip, ↓u_mPar2, ↓u_mPar3, ↓u_mPut, ↓u_mAug, ↓u_mAugS, ↓u_mBM, ↓u_mBM0, ↓u_mCallK, ↓u_mListRg, ↓u_mListRgN, ↓u_mTupRg, ↓u_mRg1, ↓u_mRg2, ↓u_iRngM1, ↓u_iRngM2, ↓u_pAt, ↓u_pNo, ↓u_mIsi, ↓u_mNever, ↓u_gtTp, ↓u_gtCons, ↓u_gtNil, ↓u_gtNm, ↓u_gtSub, ↓u_mBreak, ↓u_mCont, ↓u_mDisp, ↓u_bYes, ↓u_oI, ↓u_oB, ↓u_oIs, ↓u_oEqT, ↓u_seqT, ↓u_seqL, ↓u_seqS, ↓mSl_eq, slW_tup, slW_lst, List.map_cons, List.map_nil, List.length_cons, List.length_nil, List.cons_append, List.nil_append, List.getElem?_cons_zero, List.getElem?_cons_succ, List.set_cons_zero, List.set_cons_succ, List.replicate, Nat.reduceAdd, Nat.reduceSub, Nat.zero_add, if_true, Bool.false_eq_true, if_false, Bool.true_eq_false, reduceIte, t_law, add_int, min_int, u_oI]
  refine ⟨trivial, is, rfl, hl, ?_⟩
  have e1 : ∀ (s : S) (k : QW), k (.int (is.length : Nat)) s → oLen [.scr is] s k := fun s k hk => hk
  refine e1 _ _ ⟨cdiv (b := 3) (by omega) (by unfold Bd; decide), ?_⟩
  simp only [min_int, add_int]
  generalize hj : (2 + if ((is.length : Nat) : Int) / 5 < 4 then ((is.length : Nat) : Int) / 5 else 4) = j
  have j0 : 0 ≤ j ∧ j ≤ 6 := by rw [← hj]; split <;> omega
  refine ⟨⟨by omega, by omega⟩, ?_⟩
  rw [rangeW_map]
  refine law_loop (List.range j.toNat) (2 ^ 63) none ?_ fun b' x2 => ?_
  · have : j.toNat ≤ 6 := by omega
    have e : (2 : Nat) ^ 63 = 9223372036854775808 := by decide
    simp only [List.length_range]
    omega
  · simp only [↓u_fnM, ↓u_mSeq, ↓u_mIfS, ↓u_mRet, ↓u_mRetN, ↓u_mSet, ↓u_mExpr, ↓u_mVar, ↓u_mK, ↓u_mBin, ↓u_mUn, ↓u_mChain, ↓u_mT, ↓u_mAnd, ↓u_mOr, ↓u_mNot, ↓u_bAnd, ↓u_bOr, ↓u_bNot, ↓u_mIf, ↓u_mFn, ↓u_mTup, ↓u_mLst, ↓u_mNew, ↓u_mCons, ↓u_mNil, ↓u_mCall, ↓u_mNext, ↓u_mAsg, ↓u_mFor, ↓u_mComp, ↓u_mCompN, ↓u_iSeqM, ↓u_mEnum, ↓u_mZip, ↓u_mPar2, ↓u_mPar3, ↓u_mPut, ↓u_mAug, ↓u_mAugS, ↓u_mBM, ↓u_mBM0, ↓u_mCallK, ↓u_mListRg, ↓u_mListRgN, ↓u_mTupRg, ↓u_mRg1, ↓u_mRg2, ↓u_iRngM1, ↓u_iRngM2, ↓u_pAt, ↓u_pNo, ↓u_mIsi, ↓u_mNever, ↓u_gtTp, ↓u_gtCons, ↓u_gtNil, ↓u_gtNm, ↓u_gtSub, ↓u_mBreak, ↓u_mCont, ↓u_mDisp, ↓u_bYes, ↓u_oI, ↓u_oB, ↓u_oIs, ↓u_oEqT, ↓u_seqT, ↓u_seqL, ↓u_seqS, ↓mSl_eq, slW_tup, slW_lst, List.map_cons, List.map_nil, List.length_cons, List.length_nil, List.cons_append, List.nil_append, List.getElem?_cons_zero, List.getElem?_cons_succ, List.set_cons_zero, List.set_cons_succ, List.replicate, Nat.reduceAdd, Nat.reduceSub, Nat.zero_add, if_true, Bool.false_eq_true, if_false, Bool.true_eq_false, reduceIte]
    exact gcQ.same .bl h
end Fw

set_option maxRecDepth 100000
set_option maxHeartbeats 0
namespace Fw
open PySem PySem.Spec PyProof.Rows L2
/-! ## the head: facts by names, the run of the top -/
def fnL_0 : List He.DefD := [⟨("is_integer", none), "is_integer", "is_integer", defArgs st_is_integer, defBody st_is_integer, defScope st_is_integer, [], []⟩, ⟨("is_between", none), "is_between", "is_between", defArgs st_is_between, defBody st_is_between, defScope st_is_between, [], []⟩, ⟨("is_pipe", none), "is_pipe", "is_pipe", defArgs st_is_pipe, defBody st_is_pipe, defScope st_is_pipe, [], []⟩, ⟨("is_open_pipe", none), "is_open_pipe", "is_open_pipe", defArgs st_is_open_pipe, defBody st_is_open_pipe, defScope st_is_open_pipe, [], []⟩, ⟨("trees_of", none), "trees_of", "trees_of", defArgs st_trees_of, defBody st_trees_of, defScope st_trees_of, [], []⟩, ⟨("check_network", none), "check_network", "check_network", defArgs st_check_network, defBody st_check_network, defScope st_check_network, [], []⟩, ⟨("open_pipes", none), "open_pipes", "open_pipes", defArgs st_open_pipes, defBody st_open_pipes, defScope st_open_pipes, [], []⟩, ⟨("groups_of", none), "groups_of", "groups_of", defArgs st_groups_of, defBody st_groups_of, defScope st_groups_of, [], []⟩, ⟨("entering_pipes", none), "entering_pipes", "entering_pipes", defArgs st_entering_pipes, defBody st_entering_pipes, defScope st_entering_pipes, [], []⟩, ⟨("leaving_pipes", none), "leaving_pipes", "leaving_pipes", defArgs st_leaving_pipes, defBody st_leaving_pipes, defScope st_leaving_pipes, [], []⟩, ⟨("closed_residue", none), "closed_residue", "closed_residue", defArgs st_closed_residue, defBody st_closed_residue, defScope st_closed_residue, [], []⟩, ⟨("closed_sum", none), "closed_sum", "closed_sum", defArgs st_closed_sum, defBody st_closed_sum, defScope st_closed_sum, [], []⟩, ⟨("group_sums", none), "group_sums", "group_sums", defArgs st_group_sums, defBody st_group_sums, defScope st_group_sums, [], []⟩, ⟨("far_part", none), "far_part", "far_part", defArgs st_far_part, defBody st_far_part, defScope st_far_part, [], []⟩, ⟨("residues_of", none), "residues_of", "residues_of", defArgs st_residues_of, defBody st_residues_of, defScope st_residues_of, [], []⟩, ⟨("residues", none), "residues", "residues", defArgs st_residues, defBody st_residues, defScope st_residues, [], []⟩, ⟨("_law_mixed", none), "_law_mixed", "_law_mixed", defArgs st_law_mixed, defBody st_law_mixed, defScope st_law_mixed, [], []⟩, ⟨("_law_folded", none), "_law_folded", "_law_folded", defArgs st_law_folded, defBody st_law_folded, defScope st_law_folded, [], []⟩, ⟨("_law_draw", none), "_law_draw", "_law_draw", defArgs st_law_draw, defBody st_law_draw, defScope st_law_draw, [], []⟩, ⟨("_law_begun", none), "_law_begun", "_law_begun", defArgs st_law_begun, defBody st_law_begun, defScope st_law_begun, [], []⟩, ⟨("_law_mixed_up", none), "_law_mixed_up", "_law_mixed_up", defArgs st_law_mixed_up, defBody st_law_mixed_up, defScope st_law_mixed_up, [], []⟩, ⟨("_law_base", none), "_law_base", "_law_base", defArgs st_law_base, defBody st_law_base, defScope st_law_base, [], []⟩, ⟨("_law_amount", none), "_law_amount", "_law_amount", defArgs st_law_amount, defBody st_law_amount, defScope st_law_amount, [], []⟩, ⟨("_law_tubes", none), "_law_tubes", "_law_tubes", defArgs st_law_tubes, defBody st_law_tubes, defScope st_law_tubes, [], []⟩, ⟨("_law_root", none), "_law_root", "_law_root", defArgs st_law_root, defBody st_law_root, defScope st_law_root, [], []⟩, ⟨("_law_net", none), "_law_net", "_law_net", defArgs st_law_net, defBody st_law_net, defScope st_law_net, [], []⟩, ⟨("_law_bent", none), "_law_bent", "_law_bent", defArgs st_law_bent, defBody st_law_bent, defScope st_law_bent, [], []⟩, ⟨("_law_is_wide", none), "_law_is_wide", "_law_is_wide", defArgs st_law_is_wide, defBody st_law_is_wide, defScope st_law_is_wide, [], []⟩, ⟨("_law_ins", none), "_law_ins", "_law_ins", defArgs st_law_ins, defBody st_law_ins, defScope st_law_ins, [], []⟩, ⟨("_law_outs", none), "_law_outs", "_law_outs", defArgs st_law_outs, defBody st_law_outs, defScope st_law_outs, [], []⟩, ⟨("_law_joined", none), "_law_joined", "_law_joined", defArgs st_law_joined, defBody st_law_joined, defScope st_law_joined, [], []⟩, ⟨("_law_clusters", none), "_law_clusters", "_law_clusters", defArgs st_law_clusters, defBody st_law_clusters, defScope st_law_clusters, [], []⟩, ⟨("_law_shown", none), "_law_shown", "_law_shown", defArgs st_law_shown, defBody st_law_shown, defScope st_law_shown, [], []⟩, ⟨("_law_total", none), "_law_total", "_law_total", defArgs st_law_total, defBody st_law_total, defScope st_law_total, [], []⟩, ⟨("_law_wrong", none), "_law_wrong", "_law_wrong", defArgs st_law_wrong, defBody st_law_wrong, defScope st_law_wrong, [], []⟩]
def fnL_1 : List He.DefD := [⟨("_law_sized_net", none), "_law_sized_net", "_law_sized_net", defArgs st_law_sized_net, defBody st_law_sized_net, defScope st_law_sized_net, [], []⟩, ⟨("_law_turned", none), "_law_turned", "_law_turned", defArgs st_law_turned, defBody st_law_turned, defScope st_law_turned, [], []⟩, ⟨("_law_sides_right", none), "_law_sides_right", "_law_sides_right", defArgs st_law_sides_right, defBody st_law_sides_right, defScope st_law_sides_right, [], []⟩, ⟨("_law_is_even", none), "_law_is_even", "_law_is_even", defArgs st_law_is_even, defBody st_law_is_even, defScope st_law_is_even, [], []⟩, ⟨("_law_right", none), "_law_right", "_law_right", defArgs st_law_right, defBody st_law_right, defScope st_law_right, [], []⟩, ⟨("law", none), "law", "law", defArgs st_law, defBody st_law, defScope st_law, [], []⟩]
def fnL : List He.DefD := fnL_0 ++ fnL_1
def faL_0 : List He.Fa := [.glo "is_integer", .glo "is_between", .glo "is_pipe", .glo "is_open_pipe", .glo "trees_of", .glo "check_network", .glo "open_pipes", .glo "groups_of", .glo "entering_pipes", .glo "leaving_pipes", .glo "closed_residue", .glo "closed_sum", .glo "group_sums", .glo "far_part", .glo "residues_of", .glo "residues", .glo "_law_mixed", .glo "_law_folded", .glo "_law_draw", .glo "_law_begun", .glo "_law_mixed_up", .glo "_law_base", .glo "_law_amount", .glo "_law_tubes", .glo "_law_root", .glo "_law_net", .glo "_law_bent", .glo "_law_is_wide", .glo "_law_ins", .glo "_law_outs", .glo "_law_joined", .glo "_law_clusters", .glo "_law_shown", .glo "_law_total", .glo "_law_wrong"]
def faL_1 : List He.Fa := [.glo "_law_sized_net", .glo "_law_turned", .glo "_law_sides_right", .glo "_law_is_even", .glo "_law_right", .glo "law", .free "len", .free "range", .free "list", .free "tuple", .free "min", .free "max", .free "sum", .free "abs", .free "all", .free "any", .free "sorted", .free "repr", .free "isinstance", .free "enumerate", .free "zip", .free "set", .free "str", .free "int", .free "bool", .free "dict", .free "reversed", .int "MAX_MODULUS" 1000000, .int "MAX_PLACES" 24, .int "MAX_PIPES" 60, .int "MAX_COUNT" 1000000000000]
def faL : List He.Fa := faL_0 ++ faL_1
def looseL_0 : List Str := [("WrapcountError" : Str), ("InvalidNetwork" : Str), ("InvalidPipe" : Str), ("GroupSum" : Str), ("MAX_MODULUS" : Str), ("MAX_PLACES" : Str), ("MAX_PIPES" : Str), ("MAX_COUNT" : Str), ("is_integer" : Str), ("is_between" : Str), ("is_pipe" : Str), ("is_open_pipe" : Str), ("trees_of" : Str), ("check_network" : Str), ("open_pipes" : Str), ("groups_of" : Str), ("entering_pipes" : Str), ("leaving_pipes" : Str), ("closed_residue" : Str), ("closed_sum" : Str), ("group_sums" : Str), ("far_part" : Str), ("residues_of" : Str), ("residues" : Str), ("_law_mixed" : Str), ("_law_folded" : Str), ("_law_draw" : Str), ("_law_begun" : Str), ("_law_mixed_up" : Str), ("_law_base" : Str), ("_law_amount" : Str), ("_law_tubes" : Str), ("_law_root" : Str), ("_law_net" : Str), ("_law_bent" : Str)]
def looseL_1 : List Str := [("_law_is_wide" : Str), ("_law_ins" : Str), ("_law_outs" : Str), ("_law_joined" : Str), ("_law_clusters" : Str), ("_law_shown" : Str), ("_law_total" : Str), ("_law_wrong" : Str), ("_law_sized_net" : Str), ("_law_turned" : Str), ("_law_sides_right" : Str), ("_law_is_even" : Str), ("_law_right" : Str)]
def looseL : List Str := looseL_0 ++ looseL_1
abbrev Rw : PySem.W.OpenRow := PySem.W.OpenLaw.row PySem.Challenge.rw_wrapcount_k11_whole_both_sides_of_an_ope
abbrev hkL : PySem.W.Hook := He.hookD 4 faL fnL
def obL (s : PySem.W.SharedT) : He.AlD := He.obsDG 4 faL fnL (HandSHeadRun.getT s)
theorem obL_eq (s : PySem.W.SharedT) : obL s = hkL.obs s.abs := He.obsDG_eq (HandSHeadRun.getT_eq s)
theorem runL (w : World) : HandSHeadRun.RunEq Rw (PySem.W.view Rw.prog [52]) hkL obL 20000 looseL w := by
  intro os
  kernel_rfl
/-! ## the law -/
theorem dt_is_integer {K : PySem.W.Frag} {mg : Str → Option Value} {h : Heap} (X : K.In h) (G : h.Ns mainGlobals mg) (c : He.SaysD faL fnL K) : DefT K mg "is_integer" st_is_integer ["value"] [] := by
  obtain ⟨fd, F0⟩ := c.def_ 0 (d := ⟨("is_integer", none), "is_integer", "is_integer", defArgs st_is_integer, defBody st_is_integer, defScope st_is_integer, [], []⟩) rfl
  have F : Fun K "is_integer" "is_integer" st_is_integer (He.ga K "is_integer") fd := fun_of_D F0
  refine ⟨_, fd, F, He.glo_ok X G (c.fact 0 (f := .glo "is_integer") rfl), F0.bindsN (ps := ["value"]) fun _ _ _ _ _ _ us hl => match us, hl with | [_], _ => rfl, ?_⟩
  intro p hp; cases hp
theorem dt_is_between {K : PySem.W.Frag} {mg : Str → Option Value} {h : Heap} (X : K.In h) (G : h.Ns mainGlobals mg) (c : He.SaysD faL fnL K) : DefT K mg "is_between" st_is_between ["value", "low", "high"] [] := by
  obtain ⟨fd, F0⟩ := c.def_ 1 (d := ⟨("is_between", none), "is_between", "is_between", defArgs st_is_between, defBody st_is_between, defScope st_is_between, [], []⟩) rfl
  have F : Fun K "is_between" "is_between" st_is_between (He.ga K "is_between") fd := fun_of_D F0
  refine ⟨_, fd, F, He.glo_ok X G (c.fact 1 (f := .glo "is_between") rfl), F0.bindsN (ps := ["value", "low", "high"]) fun _ _ _ _ _ _ us hl => match us, hl with | [_, _, _], _ => rfl, ?_⟩
  intro p hp; cases hp
theorem dt_is_pipe {K : PySem.W.Frag} {mg : Str → Option Value} {h : Heap} (X : K.In h) (G : h.Ns mainGlobals mg) (c : He.SaysD faL fnL K) : DefT K mg "is_pipe" st_is_pipe ["value", "modulus", "places"] [] := by
  obtain ⟨fd, F0⟩ := c.def_ 2 (d := ⟨("is_pipe", none), "is_pipe", "is_pipe", defArgs st_is_pipe, defBody st_is_pipe, defScope st_is_pipe, [], []⟩) rfl
  have F : Fun K "is_pipe" "is_pipe" st_is_pipe (He.ga K "is_pipe") fd := fun_of_D F0
  refine ⟨_, fd, F, He.glo_ok X G (c.fact 2 (f := .glo "is_pipe") rfl), F0.bindsN (ps := ["value", "modulus", "places"]) fun _ _ _ _ _ _ us hl => match us, hl with | [_, _, _], _ => rfl, ?_⟩
  intro p hp; cases hp
theorem dt_is_open_pipe {K : PySem.W.Frag} {mg : Str → Option Value} {h : Heap} (X : K.In h) (G : h.Ns mainGlobals mg) (c : He.SaysD faL fnL K) : DefT K mg "is_open_pipe" st_is_open_pipe ["pipe"] [] := by
  obtain ⟨fd, F0⟩ := c.def_ 3 (d := ⟨("is_open_pipe", none), "is_open_pipe", "is_open_pipe", defArgs st_is_open_pipe, defBody st_is_open_pipe, defScope st_is_open_pipe, [], []⟩) rfl
  have F : Fun K "is_open_pipe" "is_open_pipe" st_is_open_pipe (He.ga K "is_open_pipe") fd := fun_of_D F0
  refine ⟨_, fd, F, He.glo_ok X G (c.fact 3 (f := .glo "is_open_pipe") rfl), F0.bindsN (ps := ["pipe"]) fun _ _ _ _ _ _ us hl => match us, hl with | [_], _ => rfl, ?_⟩
  intro p hp; cases hp
theorem dt_trees_of {K : PySem.W.Frag} {mg : Str → Option Value} {h : Heap} (X : K.In h) (G : h.Ns mainGlobals mg) (c : He.SaysD faL fnL K) : DefT K mg "trees_of" st_trees_of ["places", "pipes"] [] := by
  obtain ⟨fd, F0⟩ := c.def_ 4 (d := ⟨("trees_of", none), "trees_of", "trees_of", defArgs st_trees_of, defBody st_trees_of, defScope st_trees_of, [], []⟩) rfl
  have F : Fun K "trees_of" "trees_of" st_trees_of (He.ga K "trees_of") fd := fun_of_D F0
  refine ⟨_, fd, F, He.glo_ok X G (c.fact 4 (f := .glo "trees_of") rfl), F0.bindsN (ps := ["places", "pipes"]) fun _ _ _ _ _ _ us hl => match us, hl with | [_, _], _ => rfl, ?_⟩
  intro p hp; cases hp
theorem dt_check_network {K : PySem.W.Frag} {mg : Str → Option Value} {h : Heap} (X : K.In h) (G : h.Ns mainGlobals mg) (c : He.SaysD faL fnL K) : DefT K mg "check_network" st_check_network ["value"] [] := by
  obtain ⟨fd, F0⟩ := c.def_ 5 (d := ⟨("check_network", none), "check_network", "check_network", defArgs st_check_network, defBody st_check_network, defScope st_check_network, [], []⟩) rfl
  have F : Fun K "check_network" "check_network" st_check_network (He.ga K "check_network") fd := fun_of_D F0
  refine ⟨_, fd, F, He.glo_ok X G (c.fact 5 (f := .glo "check_network") rfl), F0.bindsN (ps := ["value"]) fun _ _ _ _ _ _ us hl => match us, hl with | [_], _ => rfl, ?_⟩
  intro p hp; cases hp
theorem dt_open_pipes {K : PySem.W.Frag} {mg : Str → Option Value} {h : Heap} (X : K.In h) (G : h.Ns mainGlobals mg) (c : He.SaysD faL fnL K) : DefT K mg "open_pipes" st_open_pipes ["network"] [] := by
  obtain ⟨fd, F0⟩ := c.def_ 6 (d := ⟨("open_pipes", none), "open_pipes", "open_pipes", defArgs st_open_pipes, defBody st_open_pipes, defScope st_open_pipes, [], []⟩) rfl
  have F : Fun K "open_pipes" "open_pipes" st_open_pipes (He.ga K "open_pipes") fd := fun_of_D F0
  refine ⟨_, fd, F, He.glo_ok X G (c.fact 6 (f := .glo "open_pipes") rfl), F0.bindsN (ps := ["network"]) fun _ _ _ _ _ _ us hl => match us, hl with | [_], _ => rfl, ?_⟩
  intro p hp; cases hp
theorem dt_groups_of {K : PySem.W.Frag} {mg : Str → Option Value} {h : Heap} (X : K.In h) (G : h.Ns mainGlobals mg) (c : He.SaysD faL fnL K) : DefT K mg "groups_of" st_groups_of ["network"] [] := by
  obtain ⟨fd, F0⟩ := c.def_ 7 (d := ⟨("groups_of", none), "groups_of", "groups_of", defArgs st_groups_of, defBody st_groups_of, defScope st_groups_of, [], []⟩) rfl
  have F : Fun K "groups_of" "groups_of" st_groups_of (He.ga K "groups_of") fd := fun_of_D F0
  refine ⟨_, fd, F, He.glo_ok X G (c.fact 7 (f := .glo "groups_of") rfl), F0.bindsN (ps := ["network"]) fun _ _ _ _ _ _ us hl => match us, hl with | [_], _ => rfl, ?_⟩
  intro p hp; cases hp
theorem dt_entering_pipes {K : PySem.W.Frag} {mg : Str → Option Value} {h : Heap} (X : K.In h) (G : h.Ns mainGlobals mg) (c : He.SaysD faL fnL K) : DefT K mg "entering_pipes" st_entering_pipes ["network", "places"] [] := by
  obtain ⟨fd, F0⟩ := c.def_ 8 (d := ⟨("entering_pipes", none), "entering_pipes", "entering_pipes", defArgs st_entering_pipes, defBody st_entering_pipes, defScope st_entering_pipes, [], []⟩) rfl
  have F : Fun K "entering_pipes" "entering_pipes" st_entering_pipes (He.ga K "entering_pipes") fd := fun_of_D F0
  refine ⟨_, fd, F, He.glo_ok X G (c.fact 8 (f := .glo "entering_pipes") rfl), F0.bindsN (ps := ["network", "places"]) fun _ _ _ _ _ _ us hl => match us, hl with | [_, _], _ => rfl, ?_⟩
  intro p hp; cases hp
theorem dt_leaving_pipes {K : PySem.W.Frag} {mg : Str → Option Value} {h : Heap} (X : K.In h) (G : h.Ns mainGlobals mg) (c : He.SaysD faL fnL K) : DefT K mg "leaving_pipes" st_leaving_pipes ["network", "places"] [] := by
  obtain ⟨fd, F0⟩ := c.def_ 9 (d := ⟨("leaving_pipes", none), "leaving_pipes", "leaving_pipes", defArgs st_leaving_pipes, defBody st_leaving_pipes, defScope st_leaving_pipes, [], []⟩) rfl
  have F : Fun K "leaving_pipes" "leaving_pipes" st_leaving_pipes (He.ga K "leaving_pipes") fd := fun_of_D F0
  refine ⟨_, fd, F, He.glo_ok X G (c.fact 9 (f := .glo "leaving_pipes") rfl), F0.bindsN (ps := ["network", "places"]) fun _ _ _ _ _ _ us hl => match us, hl with | [_, _], _ => rfl, ?_⟩
  intro p hp; cases hp
theorem dt_closed_residue {K : PySem.W.Frag} {mg : Str → Option Value} {h : Heap} (X : K.In h) (G : h.Ns mainGlobals mg) (c : He.SaysD faL fnL K) : DefT K mg "closed_residue" st_closed_residue ["modulus", "pipe"] [] := by
  obtain ⟨fd, F0⟩ := c.def_ 10 (d := ⟨("closed_residue", none), "closed_residue", "closed_residue", defArgs st_closed_residue, defBody st_closed_residue, defScope st_closed_residue, [], []⟩) rfl
  have F : Fun K "closed_residue" "closed_residue" st_closed_residue (He.ga K "closed_residue") fd := fun_of_D F0
  refine ⟨_, fd, F, He.glo_ok X G (c.fact 10 (f := .glo "closed_residue") rfl), F0.bindsN (ps := ["modulus", "pipe"]) fun _ _ _ _ _ _ us hl => match us, hl with | [_, _], _ => rfl, ?_⟩
  intro p hp; cases hp
theorem dt_closed_sum {K : PySem.W.Frag} {mg : Str → Option Value} {h : Heap} (X : K.In h) (G : h.Ns mainGlobals mg) (c : He.SaysD faL fnL K) : DefT K mg "closed_sum" st_closed_sum ["network", "places"] [] := by
  obtain ⟨fd, F0⟩ := c.def_ 11 (d := ⟨("closed_sum", none), "closed_sum", "closed_sum", defArgs st_closed_sum, defBody st_closed_sum, defScope st_closed_sum, [], []⟩) rfl
  have F : Fun K "closed_sum" "closed_sum" st_closed_sum (He.ga K "closed_sum") fd := fun_of_D F0
  refine ⟨_, fd, F, He.glo_ok X G (c.fact 11 (f := .glo "closed_sum") rfl), F0.bindsN (ps := ["network", "places"]) fun _ _ _ _ _ _ us hl => match us, hl with | [_, _], _ => rfl, ?_⟩
  intro p hp; cases hp
theorem dt_group_sums {K : PySem.W.Frag} {mg : Str → Option Value} {h : Heap} (X : K.In h) (G : h.Ns mainGlobals mg) (c : He.SaysD faL fnL K) : DefT K mg "group_sums" st_group_sums ["network"] [] := by
  obtain ⟨fd, F0⟩ := c.def_ 12 (d := ⟨("group_sums", none), "group_sums", "group_sums", defArgs st_group_sums, defBody st_group_sums, defScope st_group_sums, [], []⟩) rfl
  have F : Fun K "group_sums" "group_sums" st_group_sums (He.ga K "group_sums") fd := fun_of_D F0
  refine ⟨_, fd, F, He.glo_ok X G (c.fact 12 (f := .glo "group_sums") rfl), F0.bindsN (ps := ["network"]) fun _ _ _ _ _ _ us hl => match us, hl with | [_], _ => rfl, ?_⟩
  intro p hp; cases hp
theorem dt_far_part {K : PySem.W.Frag} {mg : Str → Option Value} {h : Heap} (X : K.In h) (G : h.Ns mainGlobals mg) (c : He.SaysD faL fnL K) : DefT K mg "far_part" st_far_part ["network", "pipe"] [] := by
  obtain ⟨fd, F0⟩ := c.def_ 13 (d := ⟨("far_part", none), "far_part", "far_part", defArgs st_far_part, defBody st_far_part, defScope st_far_part, [], []⟩) rfl
  have F : Fun K "far_part" "far_part" st_far_part (He.ga K "far_part") fd := fun_of_D F0
  refine ⟨_, fd, F, He.glo_ok X G (c.fact 13 (f := .glo "far_part") rfl), F0.bindsN (ps := ["network", "pipe"]) fun _ _ _ _ _ _ us hl => match us, hl with | [_, _], _ => rfl, ?_⟩
  intro p hp; cases hp
theorem dt_residues_of {K : PySem.W.Frag} {mg : Str → Option Value} {h : Heap} (X : K.In h) (G : h.Ns mainGlobals mg) (c : He.SaysD faL fnL K) : DefT K mg "residues_of" st_residues_of ["network"] [] := by
  obtain ⟨fd, F0⟩ := c.def_ 14 (d := ⟨("residues_of", none), "residues_of", "residues_of", defArgs st_residues_of, defBody st_residues_of, defScope st_residues_of, [], []⟩) rfl
  have F : Fun K "residues_of" "residues_of" st_residues_of (He.ga K "residues_of") fd := fun_of_D F0
  refine ⟨_, fd, F, He.glo_ok X G (c.fact 14 (f := .glo "residues_of") rfl), F0.bindsN (ps := ["network"]) fun _ _ _ _ _ _ us hl => match us, hl with | [_], _ => rfl, ?_⟩
  intro p hp; cases hp
theorem dt_residues {K : PySem.W.Frag} {mg : Str → Option Value} {h : Heap} (X : K.In h) (G : h.Ns mainGlobals mg) (c : He.SaysD faL fnL K) : DefT K mg "residues" st_residues ["network"] [(["network"], [0])] := by
  obtain ⟨fd, F0⟩ := c.def_ 15 (d := ⟨("residues", none), "residues", "residues", defArgs st_residues, defBody st_residues, defScope st_residues, [], []⟩) rfl
  have F : Fun K "residues" "residues" st_residues (He.ga K "residues") fd := fun_of_D F0
  refine ⟨_, fd, F, He.glo_ok X G (c.fact 15 (f := .glo "residues") rfl), F0.bindsN (ps := ["network"]) fun _ _ _ _ _ _ us hl => match us, hl with | [_], _ => rfl, ?_⟩
  obtain ⟨kV, doc, pm, an, cdv, ct, rfl⟩ := fd_of F
  intro p hp
  simp only [List.mem_cons, List.not_mem_nil, or_false] at hp
  rcases hp with rfl
  · intro s ws zs h1 h2 h3
    match ws, h2 with
    | [u0], _ =>
      cases h1
      exact .of_eq rfl
theorem dt_law_mixed {K : PySem.W.Frag} {mg : Str → Option Value} {h : Heap} (X : K.In h) (G : h.Ns mainGlobals mg) (c : He.SaysD faL fnL K) : DefT K mg "_law_mixed" st_law_mixed ["cell", "n"] [] := by
  obtain ⟨fd, F0⟩ := c.def_ 16 (d := ⟨("_law_mixed", none), "_law_mixed", "_law_mixed", defArgs st_law_mixed, defBody st_law_mixed, defScope st_law_mixed, [], []⟩) rfl
  have F : Fun K "_law_mixed" "_law_mixed" st_law_mixed (He.ga K "_law_mixed") fd := fun_of_D F0
  refine ⟨_, fd, F, He.glo_ok X G (c.fact 16 (f := .glo "_law_mixed") rfl), F0.bindsN (ps := ["cell", "n"]) fun _ _ _ _ _ _ us hl => match us, hl with | [_, _], _ => rfl, ?_⟩
  intro p hp; cases hp
theorem dt_law_folded {K : PySem.W.Frag} {mg : Str → Option Value} {h : Heap} (X : K.In h) (G : h.Ns mainGlobals mg) (c : He.SaysD faL fnL K) : DefT K mg "_law_folded" st_law_folded ["script"] [] := by
  obtain ⟨fd, F0⟩ := c.def_ 17 (d := ⟨("_law_folded", none), "_law_folded", "_law_folded", defArgs st_law_folded, defBody st_law_folded, defScope st_law_folded, [], []⟩) rfl
  have F : Fun K "_law_folded" "_law_folded" st_law_folded (He.ga K "_law_folded") fd := fun_of_D F0
  refine ⟨_, fd, F, He.glo_ok X G (c.fact 17 (f := .glo "_law_folded") rfl), F0.bindsN (ps := ["script"]) fun _ _ _ _ _ _ us hl => match us, hl with | [_], _ => rfl, ?_⟩
  intro p hp; cases hp
theorem dt_law_draw {K : PySem.W.Frag} {mg : Str → Option Value} {h : Heap} (X : K.In h) (G : h.Ns mainGlobals mg) (c : He.SaysD faL fnL K) : DefT K mg "_law_draw" st_law_draw ["m", "top"] [] := by
  obtain ⟨fd, F0⟩ := c.def_ 18 (d := ⟨("_law_draw", none), "_law_draw", "_law_draw", defArgs st_law_draw, defBody st_law_draw, defScope st_law_draw, [], []⟩) rfl
  have F : Fun K "_law_draw" "_law_draw" st_law_draw (He.ga K "_law_draw") fd := fun_of_D F0
  refine ⟨_, fd, F, He.glo_ok X G (c.fact 18 (f := .glo "_law_draw") rfl), F0.bindsN (ps := ["m", "top"]) fun _ _ _ _ _ _ us hl => match us, hl with | [_, _], _ => rfl, ?_⟩
  intro p hp; cases hp
theorem dt_law_begun {K : PySem.W.Frag} {mg : Str → Option Value} {h : Heap} (X : K.In h) (G : h.Ns mainGlobals mg) (c : He.SaysD faL fnL K) : DefT K mg "_law_begun" st_law_begun ["script"] [] := by
  obtain ⟨fd, F0⟩ := c.def_ 19 (d := ⟨("_law_begun", none), "_law_begun", "_law_begun", defArgs st_law_begun, defBody st_law_begun, defScope st_law_begun, [], []⟩) rfl
  have F : Fun K "_law_begun" "_law_begun" st_law_begun (He.ga K "_law_begun") fd := fun_of_D F0
  refine ⟨_, fd, F, He.glo_ok X G (c.fact 19 (f := .glo "_law_begun") rfl), F0.bindsN (ps := ["script"]) fun _ _ _ _ _ _ us hl => match us, hl with | [_], _ => rfl, ?_⟩
  intro p hp; cases hp
theorem dt_law_mixed_up {K : PySem.W.Frag} {mg : Str → Option Value} {h : Heap} (X : K.In h) (G : h.Ns mainGlobals mg) (c : He.SaysD faL fnL K) : DefT K mg "_law_mixed_up" st_law_mixed_up ["m", "things"] [] := by
  obtain ⟨fd, F0⟩ := c.def_ 20 (d := ⟨("_law_mixed_up", none), "_law_mixed_up", "_law_mixed_up", defArgs st_law_mixed_up, defBody st_law_mixed_up, defScope st_law_mixed_up, [], []⟩) rfl
  have F : Fun K "_law_mixed_up" "_law_mixed_up" st_law_mixed_up (He.ga K "_law_mixed_up") fd := fun_of_D F0
  refine ⟨_, fd, F, He.glo_ok X G (c.fact 20 (f := .glo "_law_mixed_up") rfl), F0.bindsN (ps := ["m", "things"]) fun _ _ _ _ _ _ us hl => match us, hl with | [_, _], _ => rfl, ?_⟩
  intro p hp; cases hp
theorem dt_law_base {K : PySem.W.Frag} {mg : Str → Option Value} {h : Heap} (X : K.In h) (G : h.Ns mainGlobals mg) (c : He.SaysD faL fnL K) : DefT K mg "_law_base" st_law_base ["m"] [] := by
  obtain ⟨fd, F0⟩ := c.def_ 21 (d := ⟨("_law_base", none), "_law_base", "_law_base", defArgs st_law_base, defBody st_law_base, defScope st_law_base, [], []⟩) rfl
  have F : Fun K "_law_base" "_law_base" st_law_base (He.ga K "_law_base") fd := fun_of_D F0
  refine ⟨_, fd, F, He.glo_ok X G (c.fact 21 (f := .glo "_law_base") rfl), F0.bindsN (ps := ["m"]) fun _ _ _ _ _ _ us hl => match us, hl with | [_], _ => rfl, ?_⟩
  intro p hp; cases hp
theorem dt_law_amount {K : PySem.W.Frag} {mg : Str → Option Value} {h : Heap} (X : K.In h) (G : h.Ns mainGlobals mg) (c : He.SaysD faL fnL K) : DefT K mg "_law_amount" st_law_amount ["m", "base"] [] := by
  obtain ⟨fd, F0⟩ := c.def_ 22 (d := ⟨("_law_amount", none), "_law_amount", "_law_amount", defArgs st_law_amount, defBody st_law_amount, defScope st_law_amount, [], []⟩) rfl
  have F : Fun K "_law_amount" "_law_amount" st_law_amount (He.ga K "_law_amount") fd := fun_of_D F0
  refine ⟨_, fd, F, He.glo_ok X G (c.fact 22 (f := .glo "_law_amount") rfl), F0.bindsN (ps := ["m", "base"]) fun _ _ _ _ _ _ us hl => match us, hl with | [_, _], _ => rfl, ?_⟩
  intro p hp; cases hp
theorem dt_law_tubes {K : PySem.W.Frag} {mg : Str → Option Value} {h : Heap} (X : K.In h) (G : h.Ns mainGlobals mg) (c : He.SaysD faL fnL K) : DefT K mg "_law_tubes" st_law_tubes ["m", "many", "base", "rings", "more"] [] := by
  obtain ⟨fd, F0⟩ := c.def_ 23 (d := ⟨("_law_tubes", none), "_law_tubes", "_law_tubes", defArgs st_law_tubes, defBody st_law_tubes, defScope st_law_tubes, [], []⟩) rfl
  have F : Fun K "_law_tubes" "_law_tubes" st_law_tubes (He.ga K "_law_tubes") fd := fun_of_D F0
  refine ⟨_, fd, F, He.glo_ok X G (c.fact 23 (f := .glo "_law_tubes") rfl), F0.bindsN (ps := ["m", "many", "base", "rings", "more"]) fun _ _ _ _ _ _ us hl => match us, hl with | [_, _, _, _, _], _ => rfl, ?_⟩
  intro p hp; cases hp
theorem dt_law_root {K : PySem.W.Frag} {mg : Str → Option Value} {h : Heap} (X : K.In h) (G : h.Ns mainGlobals mg) (c : He.SaysD faL fnL K) : DefT K mg "_law_root" st_law_root ["trees", "at"] [] := by
  obtain ⟨fd, F0⟩ := c.def_ 24 (d := ⟨("_law_root", none), "_law_root", "_law_root", defArgs st_law_root, defBody st_law_root, defScope st_law_root, [], []⟩) rfl
  have F : Fun K "_law_root" "_law_root" st_law_root (He.ga K "_law_root") fd := fun_of_D F0
  refine ⟨_, fd, F, He.glo_ok X G (c.fact 24 (f := .glo "_law_root") rfl), F0.bindsN (ps := ["trees", "at"]) fun _ _ _ _ _ _ us hl => match us, hl with | [_, _], _ => rfl, ?_⟩
  intro p hp; cases hp
theorem dt_law_net {K : PySem.W.Frag} {mg : Str → Option Value} {h : Heap} (X : K.In h) (G : h.Ns mainGlobals mg) (c : He.SaysD faL fnL K) : DefT K mg "_law_net" st_law_net ["m", "many", "rings", "more"] [] := by
  obtain ⟨fd, F0⟩ := c.def_ 25 (d := ⟨("_law_net", none), "_law_net", "_law_net", defArgs st_law_net, defBody st_law_net, defScope st_law_net, [], []⟩) rfl
  have F : Fun K "_law_net" "_law_net" st_law_net (He.ga K "_law_net") fd := fun_of_D F0
  refine ⟨_, fd, F, He.glo_ok X G (c.fact 25 (f := .glo "_law_net") rfl), F0.bindsN (ps := ["m", "many", "rings", "more"]) fun _ _ _ _ _ _ us hl => match us, hl with | [_, _, _, _], _ => rfl, ?_⟩
  intro p hp; cases hp
theorem dt_law_bent {K : PySem.W.Frag} {mg : Str → Option Value} {h : Heap} (X : K.In h) (G : h.Ns mainGlobals mg) (c : He.SaysD faL fnL K) : DefT K mg "_law_bent" st_law_bent ["m", "net"] [] := by
  obtain ⟨fd, F0⟩ := c.def_ 26 (d := ⟨("_law_bent", none), "_law_bent", "_law_bent", defArgs st_law_bent, defBody st_law_bent, defScope st_law_bent, [], []⟩) rfl
  have F : Fun K "_law_bent" "_law_bent" st_law_bent (He.ga K "_law_bent") fd := fun_of_D F0
  refine ⟨_, fd, F, He.glo_ok X G (c.fact 26 (f := .glo "_law_bent") rfl), F0.bindsN (ps := ["m", "net"]) fun _ _ _ _ _ _ us hl => match us, hl with | [_, _], _ => rfl, ?_⟩
  intro p hp; cases hp
theorem dt_law_is_wide {K : PySem.W.Frag} {mg : Str → Option Value} {h : Heap} (X : K.In h) (G : h.Ns mainGlobals mg) (c : He.SaysD faL fnL K) : DefT K mg "_law_is_wide" st_law_is_wide ["tube"] [] := by
  obtain ⟨fd, F0⟩ := c.def_ 27 (d := ⟨("_law_is_wide", none), "_law_is_wide", "_law_is_wide", defArgs st_law_is_wide, defBody st_law_is_wide, defScope st_law_is_wide, [], []⟩) rfl
  have F : Fun K "_law_is_wide" "_law_is_wide" st_law_is_wide (He.ga K "_law_is_wide") fd := fun_of_D F0
  refine ⟨_, fd, F, He.glo_ok X G (c.fact 27 (f := .glo "_law_is_wide") rfl), F0.bindsN (ps := ["tube"]) fun _ _ _ _ _ _ us hl => match us, hl with | [_], _ => rfl, ?_⟩
  intro p hp; cases hp
theorem dt_law_ins {K : PySem.W.Frag} {mg : Str → Option Value} {h : Heap} (X : K.In h) (G : h.Ns mainGlobals mg) (c : He.SaysD faL fnL K) : DefT K mg "_law_ins" st_law_ins ["net", "spots"] [] := by
  obtain ⟨fd, F0⟩ := c.def_ 28 (d := ⟨("_law_ins", none), "_law_ins", "_law_ins", defArgs st_law_ins, defBody st_law_ins, defScope st_law_ins, [], []⟩) rfl
  have F : Fun K "_law_ins" "_law_ins" st_law_ins (He.ga K "_law_ins") fd := fun_of_D F0
  refine ⟨_, fd, F, He.glo_ok X G (c.fact 28 (f := .glo "_law_ins") rfl), F0.bindsN (ps := ["net", "spots"]) fun _ _ _ _ _ _ us hl => match us, hl with | [_, _], _ => rfl, ?_⟩
  intro p hp; cases hp
theorem dt_law_outs {K : PySem.W.Frag} {mg : Str → Option Value} {h : Heap} (X : K.In h) (G : h.Ns mainGlobals mg) (c : He.SaysD faL fnL K) : DefT K mg "_law_outs" st_law_outs ["net", "spots"] [] := by
  obtain ⟨fd, F0⟩ := c.def_ 29 (d := ⟨("_law_outs", none), "_law_outs", "_law_outs", defArgs st_law_outs, defBody st_law_outs, defScope st_law_outs, [], []⟩) rfl
  have F : Fun K "_law_outs" "_law_outs" st_law_outs (He.ga K "_law_outs") fd := fun_of_D F0
  refine ⟨_, fd, F, He.glo_ok X G (c.fact 29 (f := .glo "_law_outs") rfl), F0.bindsN (ps := ["net", "spots"]) fun _ _ _ _ _ _ us hl => match us, hl with | [_, _], _ => rfl, ?_⟩
  intro p hp; cases hp
theorem dt_law_joined {K : PySem.W.Frag} {mg : Str → Option Value} {h : Heap} (X : K.In h) (G : h.Ns mainGlobals mg) (c : He.SaysD faL fnL K) : DefT K mg "_law_joined" st_law_joined ["net", "at", "without"] [] := by
  obtain ⟨fd, F0⟩ := c.def_ 30 (d := ⟨("_law_joined", none), "_law_joined", "_law_joined", defArgs st_law_joined, defBody st_law_joined, defScope st_law_joined, [], []⟩) rfl
  have F : Fun K "_law_joined" "_law_joined" st_law_joined (He.ga K "_law_joined") fd := fun_of_D F0
  refine ⟨_, fd, F, He.glo_ok X G (c.fact 30 (f := .glo "_law_joined") rfl), F0.bindsN (ps := ["net", "at", "without"]) fun _ _ _ _ _ _ us hl => match us, hl with | [_, _, _], _ => rfl, ?_⟩
  intro p hp; cases hp
theorem dt_law_clusters {K : PySem.W.Frag} {mg : Str → Option Value} {h : Heap} (X : K.In h) (G : h.Ns mainGlobals mg) (c : He.SaysD faL fnL K) : DefT K mg "_law_clusters" st_law_clusters ["net"] [] := by
  obtain ⟨fd, F0⟩ := c.def_ 31 (d := ⟨("_law_clusters", none), "_law_clusters", "_law_clusters", defArgs st_law_clusters, defBody st_law_clusters, defScope st_law_clusters, [], []⟩) rfl
  have F : Fun K "_law_clusters" "_law_clusters" st_law_clusters (He.ga K "_law_clusters") fd := fun_of_D F0
  refine ⟨_, fd, F, He.glo_ok X G (c.fact 31 (f := .glo "_law_clusters") rfl), F0.bindsN (ps := ["net"]) fun _ _ _ _ _ _ us hl => match us, hl with | [_], _ => rfl, ?_⟩
  intro p hp; cases hp
theorem dt_law_shown {K : PySem.W.Frag} {mg : Str → Option Value} {h : Heap} (X : K.In h) (G : h.Ns mainGlobals mg) (c : He.SaysD faL fnL K) : DefT K mg "_law_shown" st_law_shown ["net", "tube"] [] := by
  obtain ⟨fd, F0⟩ := c.def_ 32 (d := ⟨("_law_shown", none), "_law_shown", "_law_shown", defArgs st_law_shown, defBody st_law_shown, defScope st_law_shown, [], []⟩) rfl
  have F : Fun K "_law_shown" "_law_shown" st_law_shown (He.ga K "_law_shown") fd := fun_of_D F0
  refine ⟨_, fd, F, He.glo_ok X G (c.fact 32 (f := .glo "_law_shown") rfl), F0.bindsN (ps := ["net", "tube"]) fun _ _ _ _ _ _ us hl => match us, hl with | [_, _], _ => rfl, ?_⟩
  intro p hp; cases hp
theorem dt_law_total {K : PySem.W.Frag} {mg : Str → Option Value} {h : Heap} (X : K.In h) (G : h.Ns mainGlobals mg) (c : He.SaysD faL fnL K) : DefT K mg "_law_total" st_law_total ["net", "spots"] [] := by
  obtain ⟨fd, F0⟩ := c.def_ 33 (d := ⟨("_law_total", none), "_law_total", "_law_total", defArgs st_law_total, defBody st_law_total, defScope st_law_total, [], []⟩) rfl
  have F : Fun K "_law_total" "_law_total" st_law_total (He.ga K "_law_total") fd := fun_of_D F0
  refine ⟨_, fd, F, He.glo_ok X G (c.fact 33 (f := .glo "_law_total") rfl), F0.bindsN (ps := ["net", "spots"]) fun _ _ _ _ _ _ us hl => match us, hl with | [_, _], _ => rfl, ?_⟩
  intro p hp; cases hp
theorem dt_law_wrong {K : PySem.W.Frag} {mg : Str → Option Value} {h : Heap} (X : K.In h) (G : h.Ns mainGlobals mg) (c : He.SaysD faL fnL K) : DefT K mg "_law_wrong" st_law_wrong ["net"] [] := by
  obtain ⟨fd, F0⟩ := c.def_ 34 (d := ⟨("_law_wrong", none), "_law_wrong", "_law_wrong", defArgs st_law_wrong, defBody st_law_wrong, defScope st_law_wrong, [], []⟩) rfl
  have F : Fun K "_law_wrong" "_law_wrong" st_law_wrong (He.ga K "_law_wrong") fd := fun_of_D F0
  refine ⟨_, fd, F, He.glo_ok X G (c.fact 34 (f := .glo "_law_wrong") rfl), F0.bindsN (ps := ["net"]) fun _ _ _ _ _ _ us hl => match us, hl with | [_], _ => rfl, ?_⟩
  intro p hp; cases hp
theorem dt_law_sized_net {K : PySem.W.Frag} {mg : Str → Option Value} {h : Heap} (X : K.In h) (G : h.Ns mainGlobals mg) (c : He.SaysD faL fnL K) : DefT K mg "_law_sized_net" st_law_sized_net ["m"] [] := by
  obtain ⟨fd, F0⟩ := c.def_ 35 (d := ⟨("_law_sized_net", none), "_law_sized_net", "_law_sized_net", defArgs st_law_sized_net, defBody st_law_sized_net, defScope st_law_sized_net, [], []⟩) rfl
  have F : Fun K "_law_sized_net" "_law_sized_net" st_law_sized_net (He.ga K "_law_sized_net") fd := fun_of_D F0
  refine ⟨_, fd, F, He.glo_ok X G (c.fact 35 (f := .glo "_law_sized_net") rfl), F0.bindsN (ps := ["m"]) fun _ _ _ _ _ _ us hl => match us, hl with | [_], _ => rfl, ?_⟩
  intro p hp; cases hp
theorem dt_law_turned {K : PySem.W.Frag} {mg : Str → Option Value} {h : Heap} (X : K.In h) (G : h.Ns mainGlobals mg) (c : He.SaysD faL fnL K) : DefT K mg "_law_turned" st_law_turned ["net", "at"] [] := by
  obtain ⟨fd, F0⟩ := c.def_ 36 (d := ⟨("_law_turned", none), "_law_turned", "_law_turned", defArgs st_law_turned, defBody st_law_turned, defScope st_law_turned, [], []⟩) rfl
  have F : Fun K "_law_turned" "_law_turned" st_law_turned (He.ga K "_law_turned") fd := fun_of_D F0
  refine ⟨_, fd, F, He.glo_ok X G (c.fact 36 (f := .glo "_law_turned") rfl), F0.bindsN (ps := ["net", "at"]) fun _ _ _ _ _ _ us hl => match us, hl with | [_, _], _ => rfl, ?_⟩
  intro p hp; cases hp
theorem dt_law_sides_right {K : PySem.W.Frag} {mg : Str → Option Value} {h : Heap} (X : K.In h) (G : h.Ns mainGlobals mg) (c : He.SaysD faL fnL K) : DefT K mg "_law_sides_right" st_law_sides_right ["net", "rests", "at"] [] := by
  obtain ⟨fd, F0⟩ := c.def_ 37 (d := ⟨("_law_sides_right", none), "_law_sides_right", "_law_sides_right", defArgs st_law_sides_right, defBody st_law_sides_right, defScope st_law_sides_right, [], []⟩) rfl
  have F : Fun K "_law_sides_right" "_law_sides_right" st_law_sides_right (He.ga K "_law_sides_right") fd := fun_of_D F0
  refine ⟨_, fd, F, He.glo_ok X G (c.fact 37 (f := .glo "_law_sides_right") rfl), F0.bindsN (ps := ["net", "rests", "at"]) fun _ _ _ _ _ _ us hl => match us, hl with | [_, _, _], _ => rfl, ?_⟩
  intro p hp; cases hp
theorem dt_law_is_even {K : PySem.W.Frag} {mg : Str → Option Value} {h : Heap} (X : K.In h) (G : h.Ns mainGlobals mg) (c : He.SaysD faL fnL K) : DefT K mg "_law_is_even" st_law_is_even ["net", "rests", "spots"] [] := by
  obtain ⟨fd, F0⟩ := c.def_ 38 (d := ⟨("_law_is_even", none), "_law_is_even", "_law_is_even", defArgs st_law_is_even, defBody st_law_is_even, defScope st_law_is_even, [], []⟩) rfl
  have F : Fun K "_law_is_even" "_law_is_even" st_law_is_even (He.ga K "_law_is_even") fd := fun_of_D F0
  refine ⟨_, fd, F, He.glo_ok X G (c.fact 38 (f := .glo "_law_is_even") rfl), F0.bindsN (ps := ["net", "rests", "spots"]) fun _ _ _ _ _ _ us hl => match us, hl with | [_, _, _], _ => rfl, ?_⟩
  intro p hp; cases hp
theorem dt_law_right {K : PySem.W.Frag} {mg : Str → Option Value} {h : Heap} (X : K.In h) (G : h.Ns mainGlobals mg) (c : He.SaysD faL fnL K) : DefT K mg "_law_right" st_law_right ["m", "net"] [] := by
  obtain ⟨fd, F0⟩ := c.def_ 39 (d := ⟨("_law_right", none), "_law_right", "_law_right", defArgs st_law_right, defBody st_law_right, defScope st_law_right, [], []⟩) rfl
  have F : Fun K "_law_right" "_law_right" st_law_right (He.ga K "_law_right") fd := fun_of_D F0
  refine ⟨_, fd, F, He.glo_ok X G (c.fact 39 (f := .glo "_law_right") rfl), F0.bindsN (ps := ["m", "net"]) fun _ _ _ _ _ _ us hl => match us, hl with | [_, _], _ => rfl, ?_⟩
  intro p hp; cases hp
theorem dt_law {K : PySem.W.Frag} {mg : Str → Option Value} {h : Heap} (X : K.In h) (G : h.Ns mainGlobals mg) (c : He.SaysD faL fnL K) : DefT K mg "law" st_law ["script"] [] := by
  obtain ⟨fd, F0⟩ := c.def_ 40 (d := ⟨("law", none), "law", "law", defArgs st_law, defBody st_law, defScope st_law, [], []⟩) rfl
  have F : Fun K "law" "law" st_law (He.ga K "law") fd := fun_of_D F0
  refine ⟨_, fd, F, He.glo_ok X G (c.fact 40 (f := .glo "law") rfl), F0.bindsN (ps := ["script"]) fun _ _ _ _ _ _ us hl => match us, hl with | [_], _ => rfl, ?_⟩
  intro p hp; cases hp
theorem law_has {P : Program} {w : World} {K : PySem.W.Frag} {mg : Str → Option Value} {base : Heap} (bl : Blt mg) (e_MAX_MODULUS : ∃ t, mg "MAX_MODULUS" = some (.int 1000000 t)) (e_MAX_PLACES : ∃ t, mg "MAX_PLACES" = some (.int 24 t)) (e_MAX_PIPES : ∃ t, mg "MAX_PIPES" = some (.int 60 t)) (e_MAX_COUNT : ∃ t, mg "MAX_COUNT" = some (.int 1000000000000 t)) (D_is_integer : DefT K mg "is_integer" st_is_integer ["value"] []) (D_is_between : DefT K mg "is_between" st_is_between ["value", "low", "high"] []) (D_is_pipe : DefT K mg "is_pipe" st_is_pipe ["value", "modulus", "places"] []) (D_is_open_pipe : DefT K mg "is_open_pipe" st_is_open_pipe ["pipe"] []) (D_trees_of : DefT K mg "trees_of" st_trees_of ["places", "pipes"] []) (D_check_network : DefT K mg "check_network" st_check_network ["value"] []) (D_open_pipes : DefT K mg "open_pipes" st_open_pipes ["network"] []) (D_groups_of : DefT K mg "groups_of" st_groups_of ["network"] []) (D_entering_pipes : DefT K mg "entering_pipes" st_entering_pipes ["network", "places"] []) (D_leaving_pipes : DefT K mg "leaving_pipes" st_leaving_pipes ["network", "places"] []) (D_closed_residue : DefT K mg "closed_residue" st_closed_residue ["modulus", "pipe"] []) (D_closed_sum : DefT K mg "closed_sum" st_closed_sum ["network", "places"] []) (D_group_sums : DefT K mg "group_sums" st_group_sums ["network"] []) (D_far_part : DefT K mg "far_part" st_far_part ["network", "pipe"] []) (D_residues_of : DefT K mg "residues_of" st_residues_of ["network"] []) (D_residues : DefT K mg "residues" st_residues ["network"] [(["network"], [0])]) (D_law_mixed : DefT K mg "_law_mixed" st_law_mixed ["cell", "n"] []) (D_law_folded : DefT K mg "_law_folded" st_law_folded ["script"] []) (D_law_draw : DefT K mg "_law_draw" st_law_draw ["m", "top"] []) (D_law_begun : DefT K mg "_law_begun" st_law_begun ["script"] []) (D_law_mixed_up : DefT K mg "_law_mixed_up" st_law_mixed_up ["m", "things"] []) (D_law_base : DefT K mg "_law_base" st_law_base ["m"] []) (D_law_amount : DefT K mg "_law_amount" st_law_amount ["m", "base"] []) (D_law_tubes : DefT K mg "_law_tubes" st_law_tubes ["m", "many", "base", "rings", "more"] []) (D_law_root : DefT K mg "_law_root" st_law_root ["trees", "at"] []) (D_law_net : DefT K mg "_law_net" st_law_net ["m", "many", "rings", "more"] []) (D_law_bent : DefT K mg "_law_bent" st_law_bent ["m", "net"] []) (D_law_is_wide : DefT K mg "_law_is_wide" st_law_is_wide ["tube"] []) (D_law_ins : DefT K mg "_law_ins" st_law_ins ["net", "spots"] []) (D_law_outs : DefT K mg "_law_outs" st_law_outs ["net", "spots"] []) (D_law_joined : DefT K mg "_law_joined" st_law_joined ["net", "at", "without"] []) (D_law_clusters : DefT K mg "_law_clusters" st_law_clusters ["net"] []) (D_law_shown : DefT K mg "_law_shown" st_law_shown ["net", "tube"] []) (D_law_total : DefT K mg "_law_total" st_law_total ["net", "spots"] []) (D_law_wrong : DefT K mg "_law_wrong" st_law_wrong ["net"] []) (D_law_sized_net : DefT K mg "_law_sized_net" st_law_sized_net ["m"] []) (D_law_turned : DefT K mg "_law_turned" st_law_turned ["net", "at"] []) (D_law_sides_right : DefT K mg "_law_sides_right" st_law_sides_right ["net", "rests", "at"] []) (D_law_is_even : DefT K mg "_law_is_even" st_law_is_even ["net", "rests", "spots"] []) (D_law_right : DefT K mg "_law_right" st_law_right ["m", "net"] []) (D_law : DefT K mg "law" st_law ["script"] []) : Has P w K mg base 8 "law" ["script"] [] sp_law := by
  have k_is_integer := (has_is_integer (P := P) (w := w) (base := base) bl  D_is_integer ).weak ok_is_integer
  have k_is_between := (has_is_between (P := P) (w := w) (base := base) bl  D_is_between k_is_integer).weak ok_is_between
  have k_is_pipe := (has_is_pipe (P := P) (w := w) (base := base) bl e_MAX_COUNT D_is_pipe k_is_between).weak ok_is_pipe
  have k_is_open_pipe := (has_is_open_pipe (P := P) (w := w) (base := base) bl  D_is_open_pipe ).weak ok_is_open_pipe
  have k_trees_of := (has_trees_of (P := P) (w := w) (base := base) bl  D_trees_of ).weak ok_trees_of
  have k_check_network := (has_check_network (P := P) (w := w) (base := base) bl e_MAX_MODULUS e_MAX_PLACES e_MAX_PIPES D_check_network k_is_between k_is_pipe k_trees_of k_is_open_pipe).weak ok_check_network
  have k_open_pipes := (has_open_pipes (P := P) (w := w) (base := base) bl  D_open_pipes k_check_network k_is_open_pipe).weak ok_open_pipes
  have k_groups_of := (has_groups_of (P := P) (w := w) (base := base) bl  D_groups_of k_trees_of k_is_open_pipe).weak ok_groups_of
  have k_entering_pipes := (has_entering_pipes (P := P) (w := w) (base := base) bl  D_entering_pipes ).weak ok_entering_pipes
  have k_leaving_pipes := (has_leaving_pipes (P := P) (w := w) (base := base) bl  D_leaving_pipes ).weak ok_leaving_pipes
  have k_closed_residue := (has_closed_residue (P := P) (w := w) (base := base) bl  D_closed_residue ).weak ok_closed_residue
  have k_closed_sum := (has_closed_sum (P := P) (w := w) (base := base) bl  D_closed_sum k_entering_pipes k_leaving_pipes k_is_open_pipe k_closed_residue).weak ok_closed_sum
  have k_group_sums := (has_group_sums (P := P) (w := w) (base := base) bl  D_group_sums k_check_network k_groups_of k_closed_sum).weak ok_group_sums
  have k_far_part := (has_far_part (P := P) (w := w) (base := base) bl  D_far_part k_is_open_pipe).gc.weak ok_far_part
  have k_residues_of := (has_residues_of (P := P) (w := w) (base := base) bl  D_residues_of k_groups_of k_closed_sum k_is_open_pipe k_far_part k_closed_residue).gc.weak ok_residues_of
  have k_residues := (has_residues (P := P) (w := w) (base := base) bl  D_residues k_check_network k_residues_of).weak ok_residues
  have k_law_mixed := (has_law_mixed (P := P) (w := w) (base := base) bl  D_law_mixed ).weak ok_law_mixed
  have k_law_folded := (has_law_folded (P := P) (w := w) (base := base) bl  D_law_folded ).gc.weak ok_law_folded
  have k_law_draw := ((has_law_draw (P := P) (w := w) (base := base) bl  D_law_draw k_law_mixed).weak ok_draw_c).imp draw_veil
  have k_law_begun := ((has_law_begun (P := P) (w := w) (base := base) bl  D_law_begun k_law_folded).weak ok_begun_c).imp begun_veil
  have k_law_mixed_up := (has_law_mixed_up (P := P) (w := w) (base := base) bl  D_law_mixed_up k_law_draw).gc.weak ok_law_mixed_up
  have k_law_base := (has_law_base (P := P) (w := w) (base := base) bl  D_law_base k_law_draw).weak ok_law_base
  have k_law_amount := (has_law_amount (P := P) (w := w) (base := base) bl  D_law_amount k_law_draw).weak ok_law_amount
  have k_law_tubes := (has_law_tubes (P := P) (w := w) (base := base) bl  D_law_tubes k_law_mixed_up k_law_draw k_law_amount).gc.weak ok_law_tubes
  have k_law_root := (has_law_root (P := P) (w := w) (base := base) bl  D_law_root ).weak ok_law_root
  have k_law_net := (has_law_net (P := P) (w := w) (base := base) bl  D_law_net k_law_base k_law_tubes k_law_amount k_law_root k_law_draw).gc.weak ok_law_net
  have k_law_bent := (has_law_bent (P := P) (w := w) (base := base) bl  D_law_bent k_law_draw).gc.weak ok_law_bent
  have k_law_is_wide := (has_law_is_wide (P := P) (w := w) (base := base) bl  D_law_is_wide ).weak ok_law_is_wide
  have k_law_ins := (has_law_ins (P := P) (w := w) (base := base) bl  D_law_ins ).weak ok_law_ins
  have k_law_outs := (has_law_outs (P := P) (w := w) (base := base) bl  D_law_outs ).weak ok_law_outs
  have k_law_joined := (has_law_joined (P := P) (w := w) (base := base) bl  D_law_joined k_law_is_wide).gc.weak ok_law_joined
  have k_law_clusters := (has_law_clusters (P := P) (w := w) (base := base) bl  D_law_clusters k_law_joined).gc.weak ok_law_clusters
  have k_law_shown := (has_law_shown (P := P) (w := w) (base := base) bl  D_law_shown ).weak ok_law_shown
  have k_law_total := (has_law_total (P := P) (w := w) (base := base) bl  D_law_total k_law_ins k_law_outs k_law_is_wide k_law_shown).weak ok_law_total
  have k_law_wrong := (has_law_wrong (P := P) (w := w) (base := base) bl  D_law_wrong k_law_clusters k_law_total).weak ok_law_wrong
  have k_law_sized_net := (has_law_sized_net (P := P) (w := w) (base := base) bl  D_law_sized_net k_law_draw k_law_net k_law_bent k_law_wrong).gc.weak ok_law_sized_net
  have k_law_turned := (has_law_turned (P := P) (w := w) (base := base) bl  D_law_turned ).weak ok_law_turned
  have k_law_sides_right := (has_law_sides_right (P := P) (w := w) (base := base) bl  D_law_sides_right k_law_joined k_law_total k_residues k_law_turned).weak ok_law_sides_right
  have k_law_is_even := (has_law_is_even (P := P) (w := w) (base := base) bl  D_law_is_even k_law_ins k_law_outs).weak ok_law_is_even
  have k_law_right := (has_law_right (P := P) (w := w) (base := base) bl  D_law_right k_residues k_law_is_wide k_law_sides_right k_open_pipes k_law_shown k_group_sums k_law_draw k_law_is_even).gc.weak ok_law_right
  have k_law := (has_law (P := P) (w := w) (base := base) bl  D_law k_law_begun k_law_right k_law_sized_net).gc.weak ok_law
  exact k_law
theorem factsL {P : Program} {w : World} {K : PySem.W.Frag} {h : Heap} {mg : Str → Option Value} (X : K.In h) (G : h.Ns mainGlobals mg) (c : He.SaysD faL fnL K) (base : Heap) : Has P w K mg base 8 "law" ["script"] [] sp_law := by
  have bl : Blt mg := ⟨He.free_ok X G (c.fact 41 (f := .free "len") rfl), He.free_ok X G (c.fact 42 (f := .free "range") rfl), He.free_ok X G (c.fact 43 (f := .free "list") rfl), He.free_ok X G (c.fact 44 (f := .free "tuple") rfl), He.free_ok X G (c.fact 45 (f := .free "min") rfl), He.free_ok X G (c.fact 46 (f := .free "max") rfl), He.free_ok X G (c.fact 47 (f := .free "sum") rfl), He.free_ok X G (c.fact 48 (f := .free "abs") rfl), He.free_ok X G (c.fact 49 (f := .free "all") rfl), He.free_ok X G (c.fact 50 (f := .free "any") rfl), He.free_ok X G (c.fact 51 (f := .free "sorted") rfl), He.free_ok X G (c.fact 52 (f := .free "repr") rfl), He.free_ok X G (c.fact 53 (f := .free "isinstance") rfl), He.free_ok X G (c.fact 54 (f := .free "enumerate") rfl), He.free_ok X G (c.fact 55 (f := .free "zip") rfl), He.free_ok X G (c.fact 56 (f := .free "set") rfl), He.free_ok X G (c.fact 57 (f := .free "str") rfl), He.free_ok X G (c.fact 58 (f := .free "int") rfl), He.free_ok X G (c.fact 59 (f := .free "bool") rfl), He.free_ok X G (c.fact 60 (f := .free "dict") rfl), He.free_ok X G (c.fact 61 (f := .free "reversed") rfl)⟩
  exact law_has bl (He.int_ok X G (c.fact 62 (f := .int "MAX_MODULUS" 1000000) rfl)) (He.int_ok X G (c.fact 63 (f := .int "MAX_PLACES" 24) rfl)) (He.int_ok X G (c.fact 64 (f := .int "MAX_PIPES" 60) rfl)) (He.int_ok X G (c.fact 65 (f := .int "MAX_COUNT" 1000000000000) rfl)) (dt_is_integer X G c) (dt_is_between X G c) (dt_is_pipe X G c) (dt_is_open_pipe X G c) (dt_trees_of X G c) (dt_check_network X G c) (dt_open_pipes X G c) (dt_groups_of X G c) (dt_entering_pipes X G c) (dt_leaving_pipes X G c) (dt_closed_residue X G c) (dt_closed_sum X G c) (dt_group_sums X G c) (dt_far_part X G c) (dt_residues_of X G c) (dt_residues X G c) (dt_law_mixed X G c) (dt_law_folded X G c) (dt_law_draw X G c) (dt_law_begun X G c) (dt_law_mixed_up X G c) (dt_law_base X G c) (dt_law_amount X G c) (dt_law_tubes X G c) (dt_law_root X G c) (dt_law_net X G c) (dt_law_bent X G c) (dt_law_is_wide X G c) (dt_law_ins X G c) (dt_law_outs X G c) (dt_law_joined X G c) (dt_law_clusters X G c) (dt_law_shown X G c) (dt_law_total X G c) (dt_law_wrong X G c) (dt_law_sized_net X G c) (dt_law_turned X G c) (dt_law_sides_right X G c) (dt_law_is_even X G c) (dt_law_right X G c) (dt_law X G c)
end Fw
open PySem PySem.W PySem.Calls PyProof.Rows
theorem PySem.Challenge.cw_wrapcount_k11_whole_both_sides_of_an_ope_holds : PySem.Challenge.rw_wrapcount_k11_whole_both_sides_of_an_ope.Holds := by
  w_on; o_law
  refine HandSHeadRun.head_any (r := Fw.Rw) (q := view Fw.Rw.prog [52]) (H := Fw.hkL) (ob := Fw.obL) (M := 20000) (loose := Fw.looseL) (d := HandSHeadRun.topDef Fw.Rw.prog 52) (kwd := []) Fw.obL_eq
    (by kernel_rfl) (fun s => by kernel_rfl) Fw.runL (by kernel_rfl) (by kernel_rfl) (by kernel_rfl) (by rfl) (by first | assumption | decide +kernel) (by decide +kernel) ⟨rfl, rfl, rfl, rfl, rfl, by decide +kernel⟩ ?hw ?hc
  case hw => w_witness2
  case hc =>
    refine Fw.walk_g (l := PySem.Challenge.rw_wrapcount_k11_whole_both_sides_of_an_ope) (n := 63) (k := 8) (x := "script") (g := Fw.sp_law) rfl (by decide) (by kernel_rfl) ⟨rfl, by decide, by decide⟩ ?F (fun ns h => ⟨ns, rfl, h, rfl⟩)
    intro w mg fa h Y G hm
    obtain ⟨K, KX, c⟩ := Y
    have e : (HandSHeadRun.topDef Fw.Rw.prog 52).name = ("law" : PySem.Str) := by kernel_rfl
    rw [e]
    exact ⟨K, KX, fun base _ _ => Fw.factsL KX G c base⟩
