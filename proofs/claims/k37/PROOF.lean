import PyProof.Rows.All
import Wide.All
import OpenK.AllK
import Wide.FinOn
import HandS.Base
import HandS.Call
import HandS.List
import HandS.Comp
import HandS.Ends
import HandS.Exc
import HandS.TryOnly
import HandS.ExcOwn
import HandS.Iter
import HandS.Text
import HandS.Words
import HandS.WordsList
import HandS.WordsExc
import HandS.Defaults
import HandS.HeadHook1
import HandS.HeadHook2
import KE.SortData
import KE.DataCmp
import PyProof.Rows.EqDataRows
import HandS.TupAny
import HandS.Wide
import HandS.TupMul
import PyProof.P3In
import HandS.IsInst
import HandS.Style
import HandS.More
import HandS.WideBits
import HandS.StrMore
import HandS.FStr
import HandS.ReCall
import PyProof.ReprRoads
import HandS.ExcInit
import HandS.Nested
import HandS.ExcSuper
import KE.KExcSuper
import HandS.ExcIs
import HandS.ExcField
import HandS.MakeKwOnly
import HandS.Head2
import HandS.Strs
import KE.GoesEnum
import KE.GoesMore
import HandS.Head0
import HandS.Head1
import HandS.HeadEnd
import HandS.EndBits
import KE.KDictZip
import HandS.MapObj
import PyProof.StrLawsRepr
import PySem.Challenge.RW_onlytheseen_k37_texts_of_sayings_and_cla
set_option Elab.async false
set_option linter.all false
section
set_option maxRecDepth 100000
set_option maxHeartbeats 1000000
/-! DL1: data, environments, what stands for what -/
namespace DL
open PySem PySem.Spec L2
open PyProof.Rows hiding St

abbrev D := PyData
/-- a slot's entry: nothing known; a value that is never written; an object of this def's own; an object that a caller lent; an exception that is handled -/
inductive Ent where
  | no | fz (d : D) | ow (d : D) | io (d : D) | xc (c : Str) (d : D)
abbrev En := List Ent

inductive R (σ α : Type) where
  | bad | ok (a : α) (s : σ) | ex (c : Str) (d : D) (s : σ)
abbrev M (α : Type) := En → R En α
def M.pure {α : Type} (a : α) : M α := fun e => .ok a e
def M.bind {α β : Type} (f : M α) (g : α → M β) : M β := fun e => match f e with
  | .bad => .bad
  | .ok a e' => g a e'
  | .ex c d e' => .ex c d e'
def R.Is {σ α : Type} (r : R σ α) (P : α → σ → Prop) (X : Str → D → σ → Prop) : Prop := match r with
  | .bad => False
  | .ok a s => P a s
  | .ex c d s => X c d s
theorem R.Is.imp {σ α : Type} {r : R σ α} {P P' : α → σ → Prop} {X X' : Str → D → σ → Prop} (h : r.Is P X) (hp : ∀ a s, P a s → P' a s) (hx : ∀ c d s, X c d s → X' c d s) : r.Is P' X' := by
  cases r with
  | bad => exact h
  | ok a s => exact hp _ _ h
  | ex c d s => exact hx _ _ _ h

/-! ### what stands for what -/
section
variable (K : PySem.W.Frag) (W : Addr → Prop) (H : Hp)
/-- a tuple, a list that nobody writes -/
def ST (a : Addr) (vs : List V) : Prop := (¬ W a ∧ ∃ o : Obj, o.dict = none ∧ H a = some (.frz o (.tup vs))) ∨
    ∃ (o : Obj) (its : Array Value) (n : Nat), K.lookup a = some o ∧ o.cls = .type "tuple" ∧ o.dict = none ∧ o.data = .seq its n ∧ its.size ≤ sizeLine ∧ Vals vs its.toList
def KL (a : Addr) (vs : List V) : Prop := ∃ (its : Array Value) (n : Nat), K.lookup a = some { cls := .type "list", dict := none, data := .seq its n, slots := #[] } ∧ its.size ≤ sizeLine ∧ Vals vs its.toList
def SL (a : Addr) (vs : List V) : Prop := (¬ W a ∧ Rd H a (.lst vs)) ∨ KL K a vs
/-- a list that is read, its object plain -/
def SqX (a : Addr) (vs : List V) : Prop := Rd H a (.lst vs) ∨ KL K a vs
mutual
def Rep : D → V → Prop
  | .none, v => v = .non
  | .bool b, v => v = .bl b
  | .int i, v => v = .int i
  | .str x, v => v = .str x ∧ x.length ≤ sizeLine ∧ PyData.strOk x = true
  | .tuple xs, v => ∃ a vs, v = .ref a ∧ ST K W H a vs ∧ RepL xs vs ∧ xs.length ≤ sizeLine
  | .list xs, v => ∃ a vs, v = .ref a ∧ SL K W H a vs ∧ RepL xs vs ∧ xs.length ≤ sizeLine
  | .dict _, _ => False
def RepL : List D → List V → Prop
  | [], vs => vs = []
  | x :: xs, vs => ∃ v r, vs = v :: r ∧ Rep x v ∧ RepL xs r
end
/-- an object that may be written: its parts are never written -/
def Own (a : Addr) : D → Prop
  | .list xs => ∃ vs, H a = some (.lst vs) ∧ RepL K W H xs vs ∧ xs.length ≤ sizeLine
  | _ => False
end

section
variable {K : PySem.W.Frag} {W W' : Addr → Prop} {H H' : Hp}
theorem ST.sq {a : Addr} {vs : List V} (h : ST K W H a vs) : SqT K H a vs := h.imp (fun ⟨_, o, _, e⟩ => .inr ⟨o, e⟩) fun ⟨o, its, n, h1, h2, _, h3⟩ => ⟨o, its, n, h1, h2, h3⟩
theorem SL.sx {a : Addr} {vs : List V} (h : SL K W H a vs) : SqX K H a vs := h.imp (fun x => x.2) id
theorem SqX.sq {a : Addr} {vs : List V} (h : SqX K H a vs) : SqL K H a vs := h.imp id fun ⟨its, n, l, z, r⟩ => ⟨_, its, n, l, rfl, rfl, rfl, z, r⟩
theorem SL.sq {a : Addr} {vs : List V} (h : SL K W H a vs) : SqL K H a vs := h.sx.sq
/-- the heap goes on: what W does not hold stays; W holds nothing new but what is new -/
structure Go (W : Addr → Prop) (H : Hp) (W' : Addr → Prop) (H' : Hp) : Prop where
  keep : ∀ b o, H b = some o → ¬ W b → H' b = some o
  new : ∀ b, W' b → W b ∨ H b = none
theorem Go.refl : Go W H W H := ⟨fun _ _ h _ => h, fun _ h => .inl h⟩
theorem Go.trans {W2 : Addr → Prop} {H2 : Hp} (g : Go W H W' H') (g2 : Go W' H' W2 H2) : Go W H W2 H2 :=
  ⟨fun b o h n => g2.keep b o (g.keep b o h n) fun w => (g.new b w).elim n fun z => (nomatch h.symm.trans z),
   fun b w => (g2.new b w).elim (g.new b) fun z => by
    cases q : H b with
    | none => exact .inr rfl
    | some o =>
      refine .inl (Classical.byContradiction fun n => ?_)
      rw [g.keep b o q n] at z
      cases z⟩
theorem rd_go {a : Addr} {o : HO} (g : Go W H W' H') (n : ¬ W a) (r : Rd H a o) : ¬ W' a ∧ Rd H' a o := by
  have hs : ∃ u, H a = some u := by
    rcases r with r | ⟨u, r⟩
    · exact ⟨_, r⟩
    · exact ⟨_, r⟩
  obtain ⟨u, hu⟩ := hs
  refine ⟨fun w => (g.new a w).elim n fun z => (nomatch hu.symm.trans z), ?_⟩
  rcases r with r | ⟨u', r⟩
  · exact .inl (g.keep _ _ r n)
  · exact .inr ⟨u', g.keep _ _ r n⟩
theorem ST.go {a : Addr} {vs : List V} (g : Go W H W' H') (h : ST K W H a vs) : ST K W' H' a vs := h.imp (fun ⟨n, o, d, e⟩ => ⟨fun w => (g.new a w).elim n fun z => (nomatch e.symm.trans z), o, d, g.keep _ _ e n⟩) id
theorem SL.go {a : Addr} {vs : List V} (g : Go W H W' H') (h : SL K W H a vs) : SL K W' H' a vs := h.imp (fun x => rd_go g x.1 x.2) id
mutual
theorem Rep.go (g : Go W H W' H') : ∀ {d : D} {v : V}, Rep K W H d v → Rep K W' H' d v
  | .none, _, h => h
  | .bool _, _, h => h
  | .int _, _, h => h
  | .str _, _, h => h
  | .tuple xs, v, h => by
    obtain ⟨a, vs, e, s, r, z⟩ := h
    exact ⟨a, vs, e, s.go g, RepL.go g r, z⟩
  | .list xs, v, h => by
    obtain ⟨a, vs, e, s, r, z⟩ := h
    exact ⟨a, vs, e, s.go g, RepL.go g r, z⟩
  | .dict _, _, h => h
theorem RepL.go (g : Go W H W' H') : ∀ {ds : List D} {vs : List V}, RepL K W H ds vs → RepL K W' H' ds vs
  | [], _, h => h
  | x :: xs, vs, h => by
    obtain ⟨v, r, e, h1, h2⟩ := h
    exact ⟨v, r, e, Rep.go g h1, RepL.go g h2⟩
end
theorem RepL.length : ∀ {ds : List D} {vs : List V}, RepL K W H ds vs → vs.length = ds.length
  | [], _, h => by rw [show _ = [] from h]; rfl
  | x :: xs, vs, h => by
    obtain ⟨v, r, rfl, h1, h2⟩ := h
    simp only [List.length_cons, RepL.length h2]
theorem RepL.get : ∀ {ds : List D} {vs : List V} {i : Nat} {d : D}, RepL K W H ds vs → ds[i]? = some d → ∃ v, vs[i]? = some v ∧ Rep K W H d v
  | [], _, _, _, _, e => by simp at e
  | x :: xs, vs, 0, d, h, e => by
    obtain ⟨v, r, rfl, h1, h2⟩ := h
    simp at e; subst e
    exact ⟨v, rfl, h1⟩
  | x :: xs, vs, i + 1, d, h, e => by
    obtain ⟨v, r, rfl, h1, h2⟩ := h
    obtain ⟨u, h3, h4⟩ := RepL.get (i := i) h2 (by simpa using e)
    exact ⟨u, by simpa using h3, h4⟩
theorem RepL.append : ∀ {ds es : List D} {vs us : List V}, RepL K W H ds vs → RepL K W H es us → RepL K W H (ds ++ es) (vs ++ us)
  | [], _, _, _, h, h' => by rw [show _ = [] from h]; exact h'
  | x :: xs, _, vs, _, h, h' => by
    obtain ⟨v, r, rfl, h1, h2⟩ := h
    exact ⟨v, r ++ _, rfl, h1, RepL.append h2 h'⟩
theorem RepL.snoc {ds : List D} {vs : List V} {d : D} {v : V} (h : RepL K W H ds vs) (r : Rep K W H d v) : RepL K W H (ds ++ [d]) (vs ++ [v]) := h.append ⟨v, [], rfl, r, rfl⟩
theorem RepL.take : ∀ {ds : List D} {vs : List V} (n : Nat), RepL K W H ds vs → RepL K W H (ds.take n) (vs.take n)
  | _, _, 0, _ => by simp [RepL]
  | [], vs, n + 1, h => by rw [show vs = [] from h]; simp [RepL]
  | x :: xs, vs, n + 1, h => by
    obtain ⟨v, r, rfl, h1, h2⟩ := h
    exact ⟨v, r.take n, rfl, h1, RepL.take n h2⟩
theorem RepL.drop : ∀ {ds : List D} {vs : List V} (n : Nat), RepL K W H ds vs → RepL K W H (ds.drop n) (vs.drop n)
  | _, _, 0, h => h
  | [], vs, n + 1, h => by rw [show vs = [] from h]; simp [RepL]
  | x :: xs, vs, n + 1, h => by
    obtain ⟨v, r, rfl, h1, h2⟩ := h
    exact RepL.drop n h2
theorem RepL.set : ∀ {ds : List D} {vs : List V} {d : D} {v : V} (i : Nat), RepL K W H ds vs → Rep K W H d v → RepL K W H (ds.set i d) (vs.set i v)
  | [], vs, _, _, _, h, _ => by rw [show vs = [] from h]; rfl
  | x :: xs, vs, d, v, 0, h, r => by
    obtain ⟨u, s, rfl, h1, h2⟩ := h
    exact ⟨v, s, rfl, r, h2⟩
  | x :: xs, vs, d, v, i + 1, h, r => by
    obtain ⟨u, s, rfl, h1, h2⟩ := h
    exact ⟨u, s.set i v, rfl, h1, RepL.set i h2 r⟩
theorem RepL.eraseIdx : ∀ {ds : List D} {vs : List V} (i : Nat), RepL K W H ds vs → RepL K W H (ds.eraseIdx i) (vs.eraseIdx i)
  | [], vs, _, h => by rw [show vs = [] from h]; rfl
  | x :: xs, vs, 0, h => by
    obtain ⟨u, s, rfl, h1, h2⟩ := h
    exact h2
  | x :: xs, vs, i + 1, h => by
    obtain ⟨u, s, rfl, h1, h2⟩ := h
    exact ⟨u, s.eraseIdx i, rfl, h1, RepL.eraseIdx i h2⟩
theorem RepL.reverse : ∀ {ds : List D} {vs : List V}, RepL K W H ds vs → RepL K W H ds.reverse vs.reverse
  | [], vs, h => by rw [show vs = [] from h]; rfl
  | x :: xs, vs, h => by
    obtain ⟨u, s, rfl, h1, h2⟩ := h
    rw [List.reverse_cons, List.reverse_cons]
    exact (RepL.reverse h2).snoc h1
theorem RepL.of_get : ∀ {ds : List D} {vs : List V}, vs.length = ds.length → (∀ (i : Nat) d v, ds[i]? = some d → vs[i]? = some v → Rep K W H d v) → RepL K W H ds vs
  | [], [], _, _ => rfl
  | [], _ :: _, h, _ => by simp at h
  | _ :: _, [], h, _ => by simp at h
  | x :: xs, v :: vs, h, f => ⟨v, vs, rfl, f 0 x v rfl rfl, RepL.of_get (by simpa using h) fun i d u e1 e2 => f (i + 1) d u (by simpa using e1) (by simpa using e2)⟩
theorem Own.go {a : Addr} {d : D} (g : Go W H W' H') (same : H' a = H a) (h : Own K W H a d) : Own K W' H' a d := by
  cases d with
  | list xs =>
    obtain ⟨vs, e, r, z⟩ := h
    exact ⟨vs, same.trans e, r.go g, z⟩
  | _ => exact h
theorem Own.there {a : Addr} {d : D} (h : Own K W H a d) : ∃ o, H a = some o := by
  cases d with
  | list xs =>
    obtain ⟨vs, e, r, _⟩ := h
    exact ⟨_, e⟩
  | _ => exact h.elim
/-- an object of one's own is written no more -/
theorem Own.frz {a : Addr} {d : D} (h : Own K W H a d) (n : ¬ W' a) (g : Go W H W' H) : Rep K W' H d (.ref a) := by
  cases d with
  | list xs =>
    obtain ⟨vs, e, r, z⟩ := h
    exact ⟨a, vs, rfl, .inl ⟨n, .inl e⟩, r.go g, z⟩
  | _ => exact h.elim
end
end DL
end
section
set_option maxRecDepth 100000
set_option maxHeartbeats 1000000
/-! DL2: the state, the judgements -/
namespace DL
open PySem PySem.Spec L2
open PyProof.Rows hiding St

/-- the constants of a call: what the callers may write, what they lent, the heap at the entry; the exception at hand -/
structure Cl where
  Wc : Addr → Prop
  io : Option Addr
  H0 : Hp
  xa : Addr
  xcls : Value
  xd : Option Addr

def IsMut (e : En) (i : Nat) : Prop := ∃ d, e[i]? = some (.ow d) ∨ e[i]? = some (.io d)
abbrev At (σ : St) (i : Nat) (v : V) : Prop := σ[i]? = some (some v)

structure SR (K : PySem.W.Frag) (c : Cl) (W : Addr → Prop) (H : Hp) (σ : St) (e : En) : Prop where
  len : e.length = σ.length
  fz : ∀ (i : Nat) d, e[i]? = some (.fz d) → ∃ v, At σ i v ∧ Rep K W H d v
  ow : ∀ (i : Nat) d, e[i]? = some (.ow d) → ∃ a, At σ i (.ref a) ∧ W a ∧ ¬ c.Wc a ∧ Own K W H a d
  io : ∀ (i : Nat) d, e[i]? = some (.io d) → ∃ a, At σ i (.ref a) ∧ W a ∧ c.io = some a ∧ Own K W H a d
  xc : ∀ (i : Nat) k d, e[i]? = some (.xc k d) → At σ i (.ref c.xa) ∧ c.xcls = .ref (He.ga K k) ∧ ∃ x v, c.xd = some x ∧ H x = some (.xd [(("value" : Str), v)]) ∧ ¬ W x ∧ Rep K W H d v
  sep : ∀ (i j : Nat) a, IsMut e i → IsMut e j → At σ i (.ref a) → At σ j (.ref a) → i = j
  tr : ∀ a, W a → ∃ o, H a = some o
  sub : ∀ a, c.Wc a → W a
  ioW : ∀ a, c.io = some a → c.Wc a
  keep : ∀ b o, c.H0 b = some o → c.io ≠ some b → H b = some o
  new : ∀ b, W b → c.Wc b ∨ c.H0 b = none

section
variable {K : PySem.W.Frag} {c : Cl} {W W' : Addr → Prop} {H H' : Hp} {σ : St} {e : En}
theorem SR.nw (s : SR K c W H σ e) {p : Addr} (n : H p = none) : ¬ W p := fun w => by
  obtain ⟨o, h⟩ := s.tr p w
  rw [n] at h
  cases h
/-- the heap goes on, what may be written stands as it was -/
theorem SR.go (s : SR K c W H σ e) (g : Go W H W' H') (hW : ∀ a, W a → W' a) (same : ∀ a, W a → H' a = H a) (tr : ∀ a, W' a → ∃ o, H' a = some o) : SR K c W' H' σ e where
  len := s.len
  fz := fun i d h => by
    obtain ⟨v, h1, h2⟩ := s.fz i d h
    exact ⟨v, h1, h2.go g⟩
  ow := fun i d h => by
    obtain ⟨a, h1, h2, h3, h4⟩ := s.ow i d h
    exact ⟨a, h1, hW a h2, h3, h4.go g (same a h2)⟩
  io := fun i d h => by
    obtain ⟨a, h1, h2, h3, h4⟩ := s.io i d h
    exact ⟨a, h1, hW a h2, h3, h4.go g (same a h2)⟩
  xc := fun i k d h => by
    obtain ⟨h1, h2, x, v, h3, h4, h5, h6⟩ := s.xc i k d h
    exact ⟨h1, h2, x, v, h3, g.keep _ _ h4 h5, fun w => (g.new x w).elim h5 fun z => (nomatch h4.symm.trans z), h6.go g⟩
  sep := s.sep
  tr := tr
  sub := fun a h => hW a (s.sub a h)
  ioW := s.ioW
  keep := fun b o h n => by
    have h1 := s.keep b o h n
    by_cases w : W b
    · rw [same b w]; exact h1
    · exact g.keep b o h1 w
  new := fun b w => (g.new b w).elim (s.new b) fun z => by
    cases q : c.H0 b with
    | none => exact .inr rfl
    | some o =>
      by_cases n : c.io = some b
      · exact .inl (s.ioW b n)
      · have h1 := s.keep b o q n
        rw [z] at h1
        cases h1
/-- a new thing that nobody may write -/
theorem go_new (s : SR K c W H σ e) {p : Addr} {o : HO} (n : H p = none) : Go W H W (upd H p o) := ⟨fun b u h _ => by rw [upd_ne (ne_of_none h n)]; exact h, fun b h => .inl h⟩
theorem SR.new_ (s : SR K c W H σ e) {p : Addr} {o : HO} (n : H p = none) : SR K c W (upd H p o) σ e :=
  s.go (go_new s n) (fun _ h => h) (fun a w => by
    obtain ⟨u, h⟩ := s.tr a w
    exact upd_ne (ne_of_none h n)) fun a w => by
    obtain ⟨u, h⟩ := s.tr a w
    exact ⟨u, by rw [upd_ne (ne_of_none h n)]; exact h⟩
/-- a new thing of one's own -/
def plus (W : Addr → Prop) (p : Addr) : Addr → Prop := fun a => W a ∨ a = p
theorem go_own (s : SR K c W H σ e) {p : Addr} {o : HO} (n : H p = none) : Go W H (plus W p) (upd H p o) :=
  ⟨fun b u h _ => by rw [upd_ne (ne_of_none h n)]; exact h, fun b h => h.imp id fun z => by rw [z]; exact n⟩
theorem SR.own_ (s : SR K c W H σ e) {p : Addr} {o : HO} (n : H p = none) : SR K c (plus W p) (upd H p o) σ e :=
  s.go (go_own s n) (fun _ h => .inl h) (fun a w => by
    obtain ⟨u, h⟩ := s.tr a w
    exact upd_ne (ne_of_none h n)) fun a w => by
    rcases w with w | w
    · obtain ⟨u, h⟩ := s.tr a w
      exact ⟨u, by rw [upd_ne (ne_of_none h n)]; exact h⟩
    · exact ⟨o, by rw [w, upd_same]⟩
end

/-! ### the judgements -/
/-- an exception in the air -/
def xrep (K : PySem.W.Frag) (W : Addr → Prop) (H : Hp) (k : Str) (d : D) (cls : Value) (dx : Option Addr) : Prop :=
  cls = .ref (He.ga K k) ∧ ∃ x v, dx = some x ∧ H x = some (.xd [(("value" : Str), v)]) ∧ ¬ W x ∧ Rep K W H d v
theorem xrep.go {K : PySem.W.Frag} {W W' : Addr → Prop} {H H' : Hp} {k : Str} {d : D} {cls : Value} {dx : Option Addr} (g : Go W H W' H') (h : xrep K W H k d cls dx) : xrep K W' H' k d cls dx := by
  obtain ⟨h1, x, v, h3, h4, h5, h6⟩ := h
  exact ⟨h1, x, v, h3, g.keep _ _ h4 h5, fun w => (g.new x w).elim h5 fun z => (nomatch h4.symm.trans z), h6.go g⟩
/-- where one stands: the context, what is wished of an exception, which calls -/
structure Bx where
  X : Cx
  Wx : WX
  C : Cl → Prop
abbrev Bx.K (B : Bx) : PySem.W.Frag := B.X.K
def Bx.XP (B : Bx) (c : Cl) (W : Addr → Prop) (H : Hp) (σ : St) : Str → D → En → Prop := fun k d env' => ∀ cls dx W' H', Go W H W' H' → SR B.X.K c W' H' σ env' → xrep B.X.K W' H' k d cls dx → B.Wx cls dx σ H'
/-- .. of an expression that gives a value that nobody writes -/
def EvF (B : Bx) (e : Expr) (f : M D) : Prop := ∃ t, PE B.X e t ∧ ∀ c W H σ env Q, B.C c → SR B.X.K c W H σ env →
  (f env).Is (fun d env' => ∀ v W' H', Go W H W' H' → SR B.X.K c W' H' σ env' → Rep B.X.K W' H' d v → Q v H') (B.XP c W H σ) → t σ H Q
/-- a value as it may be given to a name, or handed back -/
def RepE (K : PySem.W.Frag) (c : Cl) (W : Addr → Prop) (H : Hp) (σ : St) (env : En) (x : Ent) (v : V) : Prop := match x with
  | .fz d => Rep K W H d v
  | .ow d => ∃ a, v = .ref a ∧ W a ∧ ¬ c.Wc a ∧ Own K W H a d ∧ ∀ j, IsMut env j → ¬ At σ j (.ref a)
  | _ => False
def EvO (B : Bx) (e : Expr) (f : M Ent) : Prop := ∃ t, PE B.X e t ∧ ∀ c W H σ env Q, B.C c → SR B.X.K c W H σ env →
  (f env).Is (fun x env' => ∀ v W' H', Go W H W' H' → SR B.X.K c W' H' σ env' → RepE B.X.K c W' H' σ env' x v → Q v H') (B.XP c W H σ) → t σ H Q
/-- a value that is looked at: itself, or what stands in a slot -/
inductive Pl where
  | v (d : D) | s (i : Nat)
def Ent.get : Ent → Option D
  | .fz d => some d
  | .ow d => some d
  | .io d => some d
  | _ => none
def Pl.get (p : Pl) (env : En) : Option D := match p with
  | .v d => some d
  | .s i => (env[i]?).bind Ent.get
def RepP (K : PySem.W.Frag) (W : Addr → Prop) (H : Hp) (σ : St) (p : Pl) (v : V) : Prop := match p with
  | .v d => Rep K W H d v
  | .s i => At σ i v
/-- what may be looked at -/
def RepB (K : PySem.W.Frag) (W : Addr → Prop) (H : Hp) (d : D) (v : V) : Prop := Rep K W H d v ∨ ∃ a, v = .ref a ∧ Own K W H a d
def EvB (B : Bx) (e : Expr) (f : M Pl) : Prop := ∃ t, PE B.X e t ∧ ∀ c W H σ env Q, B.C c → SR B.X.K c W H σ env →
  (f env).Is (fun p env' => ∀ v W' H', Go W H W' H' → SR B.X.K c W' H' σ env' → RepP B.X.K W' H' σ p v → Q v H') (B.XP c W H σ) → t σ H Q
def EvT (B : Bx) (e : Expr) (f : M Bool) : Prop := ∃ t, PT B.X e t ∧ ∀ c W H σ env Q, B.C c → SR B.X.K c W H σ env →
  (f env).Is (fun b env' => ∀ W' H', Go W H W' H' → SR B.X.K c W' H' σ env' → Q b H') (B.XP c W H σ) → t σ H Q
/-- arguments that nobody writes, from the left -/
def EvA (B : Bx) (es : List Expr) (f : M (List D)) : Prop := ∃ t, PA B.X es t ∧ ∀ c W H σ env Q, B.C c → SR B.X.K c W H σ env →
  (f env).Is (fun ds env' => ∀ vs W' H', Go W H W' H' → SR B.X.K c W' H' σ env' → RepL B.X.K W' H' ds vs → Q vs H') (B.XP c W H σ) → t σ H Q

section
variable {K : PySem.W.Frag} {c : Cl} {W W' : Addr → Prop} {H H' : Hp} {σ : St} {env : En}
theorem SR.look (s : SR K c W H σ env) {p : Pl} {v : V} {d : D} (r : RepP K W H σ p v) (g : p.get env = some d) : RepB K W H d v := by
  cases p with
  | v d' => cases g; exact .inl r
  | s i =>
    have g' : (env[i]?).bind Ent.get = some d := g
    cases q : env[i]? with
    | none => rw [q] at g'; cases g'
    | some x =>
      rw [q] at g'
      have r' : σ[i]? = some (some v) := r
      cases x with
      | fz d' =>
        cases g'
        obtain ⟨u, h1, h2⟩ := s.fz i d q
        have e : u = v := by
          have := h1.symm.trans r'
          cases this; rfl
        subst e
        exact .inl h2
      | ow d' =>
        cases g'
        obtain ⟨a, h1, h2, h3, h4⟩ := s.ow i d q
        have e : V.ref a = v := by
          have := h1.symm.trans r'
          cases this; rfl
        subst e
        exact .inr ⟨a, rfl, h4⟩
      | io d' =>
        cases g'
        obtain ⟨a, h1, h2, h3, h4⟩ := s.io i d q
        have e : V.ref a = v := by
          have := h1.symm.trans r'
          cases this; rfl
        subst e
        exact .inr ⟨a, rfl, h4⟩
      | xc _ _ => cases g'
      | no => cases g'
theorem RepP.go {p : Pl} {v : V} (g : Go W H W' H') (r : RepP K W H σ p v) : RepP K W' H' σ p v := by
  cases p with
  | v d => exact Rep.go g r
  | s i => exact r
theorem RepB.list {xs : List D} {v : V} (r : RepB K W H (.list xs) v) : ∃ a vs, v = .ref a ∧ SqX K H a vs ∧ RepL K W H xs vs ∧ xs.length ≤ sizeLine := by
  rcases r with r | ⟨a, e, r⟩
  · obtain ⟨a, vs, e, s, r, z⟩ := r
    exact ⟨a, vs, e, s.sx, r, z⟩
  · obtain ⟨vs, h, r, z⟩ := r
    exact ⟨a, vs, e, .inl (.inl h), r, z⟩
theorem RepB.tup {xs : List D} {v : V} (r : RepB K W H (.tuple xs) v) : ∃ a vs, v = .ref a ∧ SqT K H a vs ∧ RepL K W H xs vs ∧ xs.length ≤ sizeLine := by
  rcases r with r | ⟨a, e, r⟩
  · obtain ⟨a, vs, e, s, r, z⟩ := r
    exact ⟨a, vs, e, s.sq, r, z⟩
  · exact r.elim
theorem RepB.int {i : Int} {v : V} (r : RepB K W H (.int i) v) : v = .int i := by
  rcases r with r | ⟨a, e, r⟩
  · exact r
  · exact r.elim
theorem RepB.bool {b : Bool} {v : V} (r : RepB K W H (.bool b) v) : v = .bl b := by
  rcases r with r | ⟨a, e, r⟩
  · exact r
  · exact r.elim
theorem RepB.none {v : V} (r : RepB K W H .none v) : v = .non := by
  rcases r with r | ⟨a, e, r⟩
  · exact r
  · exact r.elim
theorem RepB.str {x : Str} {v : V} (r : RepB K W H (.str x) v) : v = .str x ∧ x.length ≤ sizeLine ∧ PyData.strOk x = true := by
  rcases r with r | ⟨a, e, r⟩
  · exact r
  · exact r.elim
/-- the index of a thing of one's own is given up: it is written no more -/
def minus (W : Addr → Prop) (a : Addr) : Addr → Prop := fun b => W b ∧ b ≠ a
theorem go_minus {a : Addr} : Go W H (minus W a) H := ⟨fun _ _ h _ => h, fun _ h => .inl h.1⟩
/-- slot i's own object is frozen -/
theorem SR.freeze (s : SR K c W H σ env) {i : Nat} {d : D} (h : env[i]? = some (.ow d)) : ∃ a, At σ i (.ref a) ∧ SR K c (minus W a) H σ (env.set i (.fz d)) ∧ Rep K (minus W a) H d (.ref a) := by
  obtain ⟨a, h1, h2, h3, h4⟩ := s.ow i d h
  have hr : Rep K (minus W a) H d (.ref a) := h4.frz (fun z => z.2 rfl) go_minus
  have hi : i < env.length := (List.getElem?_eq_some_iff.mp h).1
  have old : ∀ (j : Nat) x, (env.set i (.fz d))[j]? = some x → x ≠ .fz d ∨ j ≠ i → j ≠ i ∧ env[j]? = some x := fun j x q n => by
    by_cases e : j = i
    · subst e
      rw [List.getElem?_set_self hi] at q
      cases q
      exact n.elim (fun z => absurd rfl z) fun z => absurd rfl z
    · rw [List.getElem?_set_ne (Ne.symm e)] at q
      exact ⟨e, q⟩
  have mutb : ∀ j, IsMut (env.set i (.fz d)) j → IsMut env j ∧ j ≠ i := fun j ⟨d', q⟩ => by
    rcases q with q | q
    · obtain ⟨n, q⟩ := old j _ q (.inl nofun)
      exact ⟨⟨d', .inl q⟩, n⟩
    · obtain ⟨n, q⟩ := old j _ q (.inl nofun)
      exact ⟨⟨d', .inr q⟩, n⟩
  have me : IsMut env i := ⟨d, .inl h⟩
  refine ⟨a, h1, ⟨by simpa using s.len, fun j d' q => ?_, fun j d' q => ?_, fun j d' q => ?_, fun j k d' q => ?_, fun j k b m1 m2 => s.sep j k b (mutb j m1).1 (mutb k m2).1, fun b w => s.tr b w.1, fun b w => ⟨s.sub b w, fun z => h3 (z ▸ w)⟩, s.ioW, s.keep, fun b w => s.new b w.1⟩, hr⟩
  · by_cases e : j = i
    · subst e
      rw [List.getElem?_set_self hi] at q
      cases q
      exact ⟨_, h1, hr⟩
    · obtain ⟨_, q⟩ := old j _ q (.inr e)
      obtain ⟨v, q1, q2⟩ := s.fz j d' q
      exact ⟨v, q1, q2.go go_minus⟩
  · obtain ⟨n, q⟩ := old j _ q (.inl nofun)
    obtain ⟨b, q1, q2, q3, q4⟩ := s.ow j d' q
    exact ⟨b, q1, ⟨q2, fun z => n (s.sep j i a ⟨d', .inl q⟩ me (z ▸ q1) h1)⟩, q3, q4.go go_minus rfl⟩
  · obtain ⟨n, q⟩ := old j _ q (.inl nofun)
    obtain ⟨b, q1, q2, q3, q4⟩ := s.io j d' q
    exact ⟨b, q1, ⟨q2, fun z => n (s.sep j i a ⟨d', .inr q⟩ me (z ▸ q1) h1)⟩, q3, q4.go go_minus rfl⟩
  · obtain ⟨n, q⟩ := old j _ q (.inl nofun)
    obtain ⟨q1, q2, x, v, q3, q4, q5, q6⟩ := s.xc j k d' q
    exact ⟨q1, q2, x, v, q3, q4, fun w => q5 w.1, q6.go go_minus⟩
/-- a value of one's own is given up -/
theorem SR.drop (s : SR K c W H σ env) {a : Addr} (w : ¬ c.Wc a) (n : ∀ j, IsMut env j → ¬ At σ j (.ref a)) : SR K c (minus W a) H σ env where
  len := s.len
  fz := fun j d q => by
    obtain ⟨v, q1, q2⟩ := s.fz j d q
    exact ⟨v, q1, q2.go go_minus⟩
  ow := fun j d q => by
    obtain ⟨b, q1, q2, q3, q4⟩ := s.ow j d q
    exact ⟨b, q1, ⟨q2, fun z => n j ⟨d, .inl q⟩ (z ▸ q1)⟩, q3, q4.go go_minus rfl⟩
  io := fun j d q => by
    obtain ⟨b, q1, q2, q3, q4⟩ := s.io j d q
    exact ⟨b, q1, ⟨q2, fun z => n j ⟨d, .inr q⟩ (z ▸ q1)⟩, q3, q4.go go_minus rfl⟩
  xc := fun j k d q => by
    obtain ⟨q1, q2, x, v, q3, q4, q5, q6⟩ := s.xc j k d q
    exact ⟨q1, q2, x, v, q3, q4, fun w => q5 w.1, q6.go go_minus⟩
  sep := s.sep
  tr := fun b z => s.tr b z.1
  sub := fun b z => ⟨s.sub b z, fun q => w (q ▸ z)⟩
  ioW := s.ioW
  keep := s.keep
  new := fun b z => s.new b z.1
end

/-! ### from one judgement to another -/
section
variable {B : Bx} {e : Expr}
def mF (f : M Ent) : M D := fun env => match f env with
  | .bad => .bad
  | .ok (.fz d) env' => .ok d env'
  | .ok (.ow d) env' => .ok d env'
  | .ok _ _ => .bad
  | .ex c d env' => .ex c d env'
theorem EvO.toF {f : M Ent} (h : EvO B e f) : EvF B e (mF f) := by
  obtain ⟨t, p, h⟩ := h
  refine ⟨t, p, fun c W H σ env Q hc s hq => h c W H σ env Q hc s ?_⟩
  unfold mF at hq
  cases q : f env with
  | bad => rw [q] at hq; exact hq
  | ex k d env' => rw [q] at hq; exact hq
  | ok x env' =>
    rw [q] at hq
    intro v W' H' g s' r
    cases x with
    | fz d => exact hq v W' H' g s' r
    | ow d =>
      obtain ⟨a, rfl, r1, r2, r3, r4⟩ := r
      exact hq _ (minus W' a) H' (g.trans go_minus) (s'.drop r2 r4) (r3.frz (fun z => z.2 rfl) go_minus)
    | no => exact hq.elim
    | io _ => exact hq.elim
    | xc _ _ => exact hq.elim
def mO (f : M D) : M Ent := fun env => match f env with
  | .bad => .bad
  | .ok d env' => .ok (.fz d) env'
  | .ex c d env' => .ex c d env'
theorem EvF.toO {f : M D} (h : EvF B e f) : EvO B e (mO f) := by
  obtain ⟨t, p, h⟩ := h
  refine ⟨t, p, fun c W H σ env Q hc s hq => h c W H σ env Q hc s ?_⟩
  unfold mO at hq
  cases q : f env with
  | bad => rw [q] at hq; exact hq
  | ex k d env' => rw [q] at hq; exact hq
  | ok d env' => rw [q] at hq; exact hq
def mB (f : M D) : M Pl := fun env => match f env with
  | .bad => .bad
  | .ok d env' => .ok (.v d) env'
  | .ex c d env' => .ex c d env'
theorem EvF.toB {f : M D} (h : EvF B e f) : EvB B e (mB f) := by
  obtain ⟨t, p, h⟩ := h
  refine ⟨t, p, fun c W H σ env Q hc s hq => h c W H σ env Q hc s ?_⟩
  unfold mB at hq
  cases q : f env with
  | bad => rw [q] at hq; exact hq
  | ex k d env' => rw [q] at hq; exact hq
  | ok d env' => rw [q] at hq; exact hq
end
end DL
end
section
set_option maxRecDepth 100000
set_option maxHeartbeats 1000000
/-! DL3: names, constants, operators, comparisons, tests -/
namespace DL
open PySem PySem.Spec L2
open PyProof.Rows hiding St

/-! ### what reads as data -/
mutual
theorem Rep.dp {K : PySem.W.Frag} {W : Addr → Prop} {H : Hp} : ∀ {d : D} {v : V}, Rep K W H d v → Dp K H v d
  | .none, _, h => by rw [show _ = V.non from h]; exact .non
  | .bool b, _, h => by rw [show _ = V.bl b from h]; exact .bl b
  | .int i, _, h => by rw [show _ = V.int i from h]; exact .int i
  | .str x, v, h => by rw [show v = V.str x from h.1]; exact .str x
  | .tuple xs, v, h => by
    obtain ⟨a, vs, rfl, s, r, _⟩ := h
    exact .tup s.sq (RepL.dp r)
  | .list xs, v, h => by
    obtain ⟨a, vs, rfl, s, r, _⟩ := h
    exact .lst s.sq (RepL.dp r)
  | .dict _, _, h => h.elim
theorem RepL.dp {K : PySem.W.Frag} {W : Addr → Prop} {H : Hp} : ∀ {ds : List D} {vs : List V}, RepL K W H ds vs → DpAll K H vs ds
  | [], vs, h => by rw [show vs = [] from h]; exact .nil
  | x :: xs, vs, h => by
    obtain ⟨v, r, rfl, h1, h2⟩ := h
    exact .cons (Rep.dp h1) (RepL.dp h2)
end
mutual
theorem Rep.lay {K : PySem.W.Frag} {W : Addr → Prop} {H : Hp} : ∀ {d : D} {v : V}, Rep K W H d v → d.canLay0 = true
  | .none, _, h => rfl
  | .bool b, _, h => rfl
  | .int i, _, h => rfl
  | .str x, v, h => h.2.2
  | .tuple xs, v, h => by
    obtain ⟨a, vs, rfl, s, r, _⟩ := h
    exact RepL.lay r
  | .list xs, v, h => by
    obtain ⟨a, vs, rfl, s, r, _⟩ := h
    exact RepL.lay r
  | .dict _, _, h => h.elim
theorem RepL.lay {K : PySem.W.Frag} {W : Addr → Prop} {H : Hp} : ∀ {ds : List D} {vs : List V}, RepL K W H ds vs → PyData.canLayAll0 ds = true
  | [], vs, h => rfl
  | x :: xs, vs, h => by
    obtain ⟨v, r, rfl, h1, h2⟩ := h
    show (x.canLay0 && PyData.canLayAll0 xs) = true
    rw [Rep.lay h1, RepL.lay h2]
    rfl
end
section
variable {K : PySem.W.Frag} {c : Cl} {W W' : Addr → Prop} {H H' : Hp} {σ : St} {env : En}
theorem RepB.dp {d : D} {v : V} (r : RepB K W H d v) : Dp K H v d := by
  rcases r with r | ⟨a, rfl, r⟩
  · exact r.dp
  · cases d with
    | list xs =>
      obtain ⟨vs, e, r, _⟩ := r
      exact .lst (.of e) r.dp
    | _ => exact r.elim
theorem RepB.lay {d : D} {v : V} (r : RepB K W H d v) : d.canLay0 = true := by
  rcases r with r | ⟨a, rfl, r⟩
  · exact r.lay
  · cases d with
    | list xs =>
      obtain ⟨vs, e, r, _⟩ := r
      exact r.lay
    | _ => exact r.elim
end

/-! ### names, constants -/
section
variable {B : Bx} {pos : Pos}
theorem ev_int {i : Int} {j : Nat} : EvF B (.Constant (.int i) j pos) (M.pure (.int i)) :=
  ⟨_, pe_int, fun c W H σ env Q hc s hq => hq _ _ _ Go.refl s rfl⟩
theorem ev_bl {b : Bool} {j : Nat} : EvF B (.Constant (.bool b) j pos) (M.pure (.bool b)) :=
  ⟨_, pe_bl, fun c W H σ env Q hc s hq => hq _ _ _ Go.refl s rfl⟩
theorem ev_non {j : Nat} : EvF B (.Constant .none j pos) (M.pure .none) :=
  ⟨_, pe_non, fun c W H σ env Q hc s hq => hq _ _ _ Go.refl s rfl⟩
theorem ev_str {x : Str} {j : Nat} (h : (decide (x.length ≤ sizeLine) && PyData.strOk x) = true) : EvF B (.Constant (.str x) j pos) (M.pure (.str x)) :=
  ⟨_, pe_str, fun c W H σ env Q hc s hq => hq _ _ _ Go.refl s ⟨rfl, of_decide_eq_true (Bool.and_eq_true_iff.mp h).1, (Bool.and_eq_true_iff.mp h).2⟩⟩
/-- a name, its value kept for good: an object of one's own is written no more -/
def dName (i : Nat) : M D := fun env => match env[i]? with
  | some (.fz d) => .ok d env
  | some (.ow d) => .ok d (env.set i (.fz d))
  | _ => .bad
theorem ev_name (i : Nat) {x : Str} (hN : B.X.N[i]? = some x := by rfl) (hv : Vis B.X.env.scope x := by first | exact Or.inl rfl | exact Or.inr (Or.inl rfl) | exact Or.inr (Or.inr rfl))
    (hd : (x == ("__debug__" : Str)) = false := by decide +kernel) (hcd : (x == ("__classdict__" : Str)) = false := by decide +kernel) : EvF B (.Name x pos) (dName i) := by
  refine ⟨_, pe_var hN hv hd hcd, fun c W H σ env Q hc s hq => ?_⟩
  unfold dName at hq
  cases q : env[i]? with
  | none => rw [q] at hq; exact hq.elim
  | some y =>
    rw [q] at hq
    cases y with
    | fz d =>
      obtain ⟨v, h1, h2⟩ := s.fz i d q
      exact ⟨v, h1, hq v W H Go.refl s h2⟩
    | ow d =>
      obtain ⟨a, h1, h2, h3⟩ := s.freeze q
      exact ⟨_, h1, hq _ _ _ go_minus h2 h3⟩
    | no => exact hq.elim
    | io _ => exact hq.elim
    | xc _ _ => exact hq.elim
/-- a name that is looked at -/
def dSlot (i : Nat) : M Pl := fun env => match (env[i]?).bind Ent.get with
  | some _ => .ok (.s i) env
  | none => .bad
theorem SR.at {K : PySem.W.Frag} {c : Cl} {W : Addr → Prop} {H : Hp} {σ : St} {env : En} (s : SR K c W H σ env) {i : Nat} {d : D} (h : (env[i]?).bind Ent.get = some d) : ∃ v, At σ i v := by
  cases q : env[i]? with
  | none => rw [q] at h; cases h
  | some y =>
    rw [q] at h
    cases y with
    | fz d =>
      obtain ⟨v, h1, h2⟩ := s.fz i d q
      exact ⟨v, h1⟩
    | ow d =>
      obtain ⟨a, h1, h2⟩ := s.ow i d q
      exact ⟨_, h1⟩
    | io d =>
      obtain ⟨a, h1, h2⟩ := s.io i d q
      exact ⟨_, h1⟩
    | no => cases h
    | xc _ _ => cases h
theorem eb_name (i : Nat) {x : Str} (hN : B.X.N[i]? = some x := by rfl) (hv : Vis B.X.env.scope x := by first | exact Or.inl rfl | exact Or.inr (Or.inl rfl) | exact Or.inr (Or.inr rfl))
    (hd : (x == ("__debug__" : Str)) = false := by decide +kernel) (hcd : (x == ("__classdict__" : Str)) = false := by decide +kernel) : EvB B (.Name x pos) (dSlot i) := by
  refine ⟨_, pe_var hN hv hd hcd, fun c W H σ env Q hc s hq => ?_⟩
  unfold dSlot at hq
  cases q : (env[i]?).bind Ent.get with
  | none => rw [q] at hq; exact hq.elim
  | some d =>
    rw [q] at hq
    obtain ⟨v, h1⟩ := s.at q
    exact ⟨v, h1, hq v W H Go.refl s h1⟩
/-- a name that is handed back: it is looked at no more -/
def dMove (i : Nat) : M Ent := fun env => match env[i]? with
  | some (.fz d) => .ok (.fz d) env
  | some (.ow d) => .ok (.ow d) (env.set i .no)
  | _ => .bad
theorem eo_move (i : Nat) {x : Str} (hN : B.X.N[i]? = some x := by rfl) (hv : Vis B.X.env.scope x := by first | exact Or.inl rfl | exact Or.inr (Or.inl rfl) | exact Or.inr (Or.inr rfl))
    (hd : (x == ("__debug__" : Str)) = false := by decide +kernel) (hcd : (x == ("__classdict__" : Str)) = false := by decide +kernel) : EvO B (.Name x pos) (dMove i) := by
  refine ⟨_, pe_var hN hv hd hcd, fun c W H σ env Q hc s hq => ?_⟩
  unfold dMove at hq
  cases q : env[i]? with
  | none => rw [q] at hq; exact hq.elim
  | some y =>
    rw [q] at hq
    cases y with
    | fz d =>
      obtain ⟨v, h1, h2⟩ := s.fz i d q
      exact ⟨v, h1, hq v W H Go.refl s h2⟩
    | ow d =>
      obtain ⟨a, h1, h2, h3, h4⟩ := s.ow i d q
      have hi : i < env.length := (List.getElem?_eq_some_iff.mp q).1
      have old : ∀ (j : Nat) x, (env.set i .no)[j]? = some x → x ≠ .no → j ≠ i ∧ env[j]? = some x := fun j x q n => by
        by_cases e : j = i
        · subst e
          rw [List.getElem?_set_self hi] at q
          cases q
          exact absurd rfl n
        · rw [List.getElem?_set_ne (Ne.symm e)] at q
          exact ⟨e, q⟩
      have mutb : ∀ j, IsMut (env.set i .no) j → IsMut env j ∧ j ≠ i := fun j ⟨d', q⟩ => by
        rcases q with q | q
        · obtain ⟨n, q⟩ := old j _ q nofun
          exact ⟨⟨d', .inl q⟩, n⟩
        · obtain ⟨n, q⟩ := old j _ q nofun
          exact ⟨⟨d', .inr q⟩, n⟩
      refine ⟨_, h1, hq _ W H Go.refl ⟨by simpa using s.len, fun j d' z => s.fz j d' (old j _ z nofun).2, fun j d' z => s.ow j d' (old j _ z nofun).2, fun j d' z => s.io j d' (old j _ z nofun).2,
        fun j k d' z => s.xc j k d' (old j _ z nofun).2, fun j k b m1 m2 => s.sep j k b (mutb j m1).1 (mutb k m2).1, s.tr, s.sub, s.ioW, s.keep, s.new⟩ ⟨a, rfl, h2, h3, h4, fun j m z => ?_⟩⟩
      exact (mutb j m).2 (s.sep j i a (mutb j m).1 ⟨d, .inl q⟩ z h1)
    | no => exact hq.elim
    | io _ => exact hq.elim
    | xc _ _ => exact hq.elim
/-- a constant of the module -/
theorem ev_glob {x : Str} {d : D} {v : V} {u : Value} (hg : Gl B.X x) (hm : B.X.mg x = some u) (r : RelV v u) (hr : ∀ W H, Rep B.K W H d v) (hd : (x == ("__debug__" : Str)) = false := by decide +kernel) : EvF B (.Name x pos) (M.pure d) :=
  ⟨_, pe_glob hg hm r hd, fun c W H σ env Q hc s hq => hq _ _ _ Go.refl s (hr W H)⟩
end

/-! ### two operands -/
/-- F says what an operation on values gives -/
def rD (K : PySem.W.Frag) (F : D → D → Option Ent) : R2 := fun x y H Q => ∃ c W σ env d1 d2 e, SR K c W H σ env ∧ RepB K W H d1 x ∧ RepB K W H d2 y ∧ F d1 d2 = some e ∧
  ∀ v W' H', Go W H W' H' → SR K c W' H' σ env → RepE K c W' H' σ env e v → Q v H'
def M.two {α β γ : Type} (f : M α) (g : M β) (h : α → β → M γ) : M γ := M.bind f fun a => M.bind g fun b => h a b
def dBin (F : D → D → Option Ent) (f g : M Pl) : M Ent := M.two f g fun p q env => match p.get env, q.get env with
  | some d1, some d2 => (match F d1 d2 with
    | some e => .ok e env
    | none => .bad)
  | _, _ => .bad
theorem Is_bind {α β : Type} {f : M α} {g : α → M β} {env : En} {P : β → En → Prop} {X : Str → D → En → Prop} (h : (M.bind f g env).Is P X) : (f env).Is (fun a e' => (g a e').Is P X) X := by
  unfold M.bind at h
  cases q : f env with
  | bad => rw [q] at h; exact h
  | ok a e' => rw [q] at h; exact h
  | ex k d e' => rw [q] at h; exact h
section
variable {B : Bx} {a b : Expr} {pos : Pos} {f g : M Pl} {F : D → D → Option Ent}
theorem Bx.XP.go {c : Cl} {W W' : Addr → Prop} {H H' : Hp} {σ : St} (g : Go W H W' H') {k : Str} {d : D} {env : En} (h : B.XP c W H σ k d env) : B.XP c W' H' σ k d env :=
  fun cls dx W2 H2 g2 s r => h cls dx W2 H2 (g.trans g2) s r
/-- two operands, then what is asked of them -/
theorem two_ok {ta tb : TE} {c : Cl} {W : Addr → Prop} {H : Hp} {σ : St} {env : En} {r : R2} {Q : VK}
    (ha : ∀ c W H σ env Q, B.C c → SR B.X.K c W H σ env → (f env).Is (fun p env' => ∀ v W' H', Go W H W' H' → SR B.X.K c W' H' σ env' → RepP B.X.K W' H' σ p v → Q v H') (B.XP c W H σ) → ta σ H Q)
    (hb : ∀ c W H σ env Q, B.C c → SR B.X.K c W H σ env → (g env).Is (fun p env' => ∀ v W' H', Go W H W' H' → SR B.X.K c W' H' σ env' → RepP B.X.K W' H' σ p v → Q v H') (B.XP c W H σ) → tb σ H Q)
    (hc : B.C c) (s : SR B.X.K c W H σ env) {h : Pl → Pl → M Ent}
    (hq : (M.two f g h env).Is (fun e env' => ∀ v W' H', Go W H W' H' → SR B.X.K c W' H' σ env' → RepE B.X.K c W' H' σ env' e v → Q v H') (B.XP c W H σ))
    (hr : ∀ p q x y W2 H2 env2, Go W H W2 H2 → SR B.X.K c W2 H2 σ env2 → RepP B.X.K W2 H2 σ p x → RepP B.X.K W2 H2 σ q y →
      (h p q env2).Is (fun e env' => ∀ v W' H', Go W2 H2 W' H' → SR B.X.K c W' H' σ env' → RepE B.X.K c W' H' σ env' e v → Q v H') (B.XP c W2 H2 σ) → r x y H2 Q) : tOp r ta tb σ H Q := by
  refine ha c W H σ env _ hc s ((Is_bind hq).imp (fun p env1 h1 x W1 H1 g1 s1 r1 => ?_) fun _ _ _ z => z)
  refine hb c W1 H1 σ env1 _ hc s1 ((Is_bind h1).imp (fun q env2 h2 y W2 H2 g2 s2 r2 => ?_) fun _ _ _ z => z.go g1)
  exact hr p q x y W2 H2 env2 (g1.trans g2) s2 (r1.go g2) r2 (h2.imp (fun e env3 h3 v W3 H3 g3 s3 r3 => h3 v W3 H3 ((g1.trans g2).trans g3) s3 r3) fun _ _ _ z => z.go (g1.trans g2))
theorem rd_of {c : Cl} {W : Addr → Prop} {H : Hp} {σ : St} {env : En} {p q : Pl} {x y : V} {Q : VK} (s : SR B.X.K c W H σ env) (r1 : RepP B.X.K W H σ p x) (r2 : RepP B.X.K W H σ q y) {X : Str → D → En → Prop}
    (h : R.Is (match p.get env, q.get env with
      | some d1, some d2 => (match F d1 d2 with
        | some e => (.ok e env : R En Ent)
        | none => .bad)
      | _, _ => .bad) (fun e env' => ∀ v W' H', Go W H W' H' → SR B.X.K c W' H' σ env' → RepE B.X.K c W' H' σ env' e v → Q v H') X) : rD B.X.K F x y H Q := by
  cases h1 : p.get env with
  | none => rw [h1] at h; exact h.elim
  | some d1 =>
    cases h2 : q.get env with
    | none => rw [h1, h2] at h; exact h.elim
    | some d2 =>
      rw [h1, h2] at h
      dsimp only at h
      cases h3 : F d1 d2 with
      | none => rw [h3] at h; exact h.elim
      | some e =>
        rw [h3] at h
        exact ⟨c, W, σ, env, d1, d2, e, s, s.look r1 h1, s.look r2 h2, h3, h⟩
theorem eo_bin {op : Operator} (ho : OpR B.X (binaryOp op) (rD B.X.K F)) (ha : EvB B a f) (hb : EvB B b g) : EvO B (.BinOp a op b pos) (dBin F f g) := by
  obtain ⟨ta, pa, ha⟩ := ha
  obtain ⟨tb, pb, hb⟩ := hb
  exact ⟨_, pe_op ho pa pb, fun c W H σ env Q hc s hq => two_ok ha hb hc s hq fun p q x y W2 H2 env2 g2 s2 r1 r2 h => rd_of s2 r1 r2 h⟩
theorem eo_cmp {op : CmpOp} (ho : OpR B.X (compareOp op) (rD B.X.K F)) (ha : EvB B a f) (hb : EvB B b g) (hm : behindInMarks op b = false) : EvO B (.Compare a [op] [b] pos) (dBin F f g) := by
  obtain ⟨ta, pa, ha⟩ := ha
  obtain ⟨tb, pb, hb⟩ := hb
  exact ⟨_, pe_cmpR ho pa pb hm, fun c W H σ env Q hc s hq => two_ok ha hb hc s hq fun p q x y W2 H2 env2 g2 s2 r1 r2 h => rd_of s2 r1 r2 h⟩
end
end DL
end
section
set_option maxRecDepth 100000
set_option maxHeartbeats 1000000
/-! DL4: what the operators give -/
namespace DL
open PySem PySem.Spec L2
open PyProof.Rows hiding St

def fits (n : Nat) : Bool := decide (n ≤ sizeLine)
theorem fits_ok {n : Nat} (h : fits n = true) : n ≤ sizeLine := of_decide_eq_true h
theorem strOk_append {x y : Str} (hx : PyData.strOk x = true) (hy : PyData.strOk y = true) : PyData.strOk (x ++ y) = true := by
  unfold PyData.strOk at *
  show (x.cps ++ y.cps).all _ = true
  rw [Array.all_append, hx, hy]
  rfl
theorem strLen_append' (x y : Str) : (x ++ y).length = x.length + y.length := by
  show (x.cps ++ y.cps).size = _
  rw [Array.size_append]
  rfl
def addD : D → D → Option Ent
  | .int a, .int b => some (.fz (.int (a + b)))
  | .str a, .str b => if fits (a.length + b.length) then some (.fz (.str (a ++ b))) else none
  | .list a, .list b => if fits (a.length + b.length) then some (.ow (.list (a ++ b))) else none
  | .tuple a, .tuple b => if fits (a.length + b.length) then some (.fz (.tuple (a ++ b))) else none
  | _, _ => none
def intD (g : Int → Int → Int) : D → D → Option Ent
  | .int a, .int b => some (.fz (.int (g a b)))
  | _, _ => none
def intC (p : Int → Int → Bool) (g : Int → Int → Int) : D → D → Option Ent
  | .int a, .int b => if p a b then some (.fz (.int (g a b))) else none
  | _, _ => none
def okMul (a b : Int) : Bool := (decide (a.natAbs < 2 ^ 64) || decide (b.natAbs < 2 ^ 64)) || (decide (a.natAbs < 2 ^ 512) && decide (b.natAbs < 2 ^ 512))
def okPow (i j : Int) : Bool := decide (0 ≤ j) && (decide (j ≤ 1000) && decide (i.natAbs < 2 ^ 64))
def subD := intD fun a b => a - b
def mulD : D → D → Option Ent
  | .int a, .int b => if okMul a b then some (.fz (.int (a * b))) else none
  | _, _ => none
def fdivD := intC (fun _ b => decide (0 < b) && decide (b.natAbs < 2 ^ 512)) fun a b => a / b
def modD := intC (fun _ b => decide (0 < b)) fun a b => a % b
def powD := intC okPow fun a b => a ^ b.toNat
def shlD := intC okPow fun a b => a * 2 ^ b.toNat
def shrD := intC (fun _ b => decide (0 ≤ b)) fun a b => a / 2 ^ b.toNat
def andD := intD Builtin.bitAnd
def orD := intD Builtin.bitOr
def xorD := intD Builtin.bitXor
def okDp (a b : D) : Bool := decide (min a.depth b.depth ≤ 64)
def eqD (a b : D) : Option Ent := if okDp a b then some (.fz (.bool (PyData.eqv a b))) else none
def neD (a b : D) : Option Ent := if okDp a b then some (.fz (.bool (!PyData.eqv a b))) else none
def isNone : D → Bool
  | .none => true
  | _ => false
def okLt (a b : D) : Bool := PySem.W.alike a b && (!isNone a && okDp a b)
def ltD (a b : D) : Option Ent := if okLt a b then some (.fz (.bool (PySem.W.dataLt a b))) else none
def gtD (a b : D) : Option Ent := if okLt a b then some (.fz (.bool (PySem.W.dataLt b a))) else none
def leD (a b : D) : Option Ent := if okLt a b then some (.fz (.bool (!PySem.W.dataLt b a))) else none
def geD (a b : D) : Option Ent := if okLt a b then some (.fz (.bool (!PySem.W.dataLt a b))) else none
def strIn (x y : Str) : Bool := !(Builtin.Str.occurrences y x 0 y.length 1).isEmpty
def inB : D → D → Option Bool
  | d, .list xs => if decide (d.depth ≤ 64) then some (xs.any fun z => PyData.eqv z d) else none
  | d, .tuple xs => if decide (d.depth ≤ 64) then some (xs.any fun z => PyData.eqv z d) else none
  | .str x, .str y => some (strIn x y)
  | _, _ => none
def inD (a b : D) : Option Ent := (inB a b).map fun k => .fz (.bool k)
def notInD (a b : D) : Option Ent := (inB a b).map fun k => .fz (.bool (!k))
/-- is None -/
def isD (a b : D) : Option Ent := if isNone b then some (.fz (.bool (isNone a))) else none
def isNotD (a b : D) : Option Ent := if isNone b then some (.fz (.bool (!isNone a))) else none

theorem ite_some {α : Type} {p : Bool} {a b : α} (h : (if p then some a else none) = some b) : p = true ∧ a = b := by
  cases p with
  | true => exact ⟨rfl, Option.some.inj h⟩
  | false => cases h
section
variable {K : PySem.W.Frag} {c : Cl} {W : Addr → Prop} {H : Hp} {σ : St} {env : En} {Q : VK}
/-- what is asked of a new list, a new tuple -/
theorem new_list {ds : List D} {vs : List V} (s : SR K c W H σ env) (r : RepL K W H ds vs) (hz : ds.length ≤ sizeLine) (q : ∀ v W' H', Go W H W' H' → SR K c W' H' σ env → RepE K c W' H' σ env (.ow (.list ds)) v → Q v H') : ∀ p, H p = none → Q (.ref p) (upd H p (.lst vs)) := fun p n => by
  refine q (.ref p) (plus W p) _ (go_own s n) (s.own_ n) ⟨p, rfl, .inr rfl, fun w => s.nw n (s.sub p w), ⟨vs, upd_same, r.go (go_own s n), hz⟩, fun j ⟨d, m⟩ z => ?_⟩
  have w : W p := by
    rcases m with m | m
    · obtain ⟨a, h1, h2, _⟩ := s.ow j d m
      have e : some (some (V.ref a)) = some (some (V.ref p)) := h1.symm.trans z
      cases e
      exact h2
    · obtain ⟨a, h1, h2, _⟩ := s.io j d m
      have e : some (some (V.ref a)) = some (some (V.ref p)) := h1.symm.trans z
      cases e
      exact h2
  exact s.nw n w
theorem new_tup {ds : List D} {vs : List V} (s : SR K c W H σ env) (r : RepL K W H ds vs) (hz : ds.length ≤ sizeLine) (q : ∀ v W' H', Go W H W' H' → SR K c W' H' σ env → Rep K W' H' (.tuple ds) v → Q v H') : ∀ p o, Obj.dict o = none → H p = none → Q (.ref p) (upd H p (.frz o (.tup vs))) := fun p o d n =>
  q (.ref p) W _ (go_new s n) (s.new_ n) ⟨p, vs, rfl, .inl ⟨s.nw n, o, d, upd_same⟩, r.go (go_new s n), hz⟩
end
section
variable {X : Cx}
theorem op_intD {f : Value → Value → Sem Value} {g : Int → Int → Int} (h : OpR X f (rI0 fun i j => .int (g i j))) : OpR X f (rD X.K (intD g)) := by
  rintro pins s σ H x y v u Q I rx ry ⟨c, W, σ', env, d1, d2, e, hs, r1, r2, hF, q⟩
  cases d1 with
  | int a =>
    cases d2 with
    | int b =>
      cases hF
      exact h pins s σ H x y v u Q I rx ry ⟨a, b, r1.int, r2.int, q _ W H Go.refl hs rfl⟩
    | _ => cases hF
  | _ => cases hF
theorem op_intC {f : Value → Value → Sem Value} {p : Int → Int → Bool} {C : Int → Int → Prop} {g : Int → Int → Int} (h : OpR X f (rI C fun i j => .int (g i j))) (hp : ∀ i j, p i j = true → C i j) : OpR X f (rD X.K (intC p g)) := by
  rintro pins s σ H x y v u Q I rx ry ⟨c, W, σ', env, d1, d2, e, hs, r1, r2, hF, q⟩
  cases d1 with
  | int a =>
    cases d2 with
    | int b =>
      obtain ⟨h1, rfl⟩ := ite_some hF
      exact h pins s σ H x y v u Q I rx ry ⟨a, b, r1.int, r2.int, hp a b h1, q _ W H Go.refl hs rfl⟩
    | _ => cases hF
  | _ => cases hF
theorem op_subD : OpR X (binaryOp .Sub) (rD X.K subD) := op_intD op_sub
theorem op_andD : OpR X (binaryOp .BitAnd) (rD X.K andD) := op_intD op_and
theorem op_orD : OpR X (binaryOp .BitOr) (rD X.K orD) := op_intD op_or
theorem op_xorD : OpR X (binaryOp .BitXor) (rD X.K xorD) := op_intD op_xor
theorem op_modD : OpR X (binaryOp .Mod) (rD X.K modD) := op_intC op_mod fun _ _ h => of_decide_eq_true h
theorem op_fdivD : OpR X (binaryOp .FloorDiv) (rD X.K fdivD) := op_intC op_fdivW fun i j h => by
  obtain ⟨h1, h2⟩ := Bool.and_eq_true_iff.mp h
  exact wide_div (of_decide_eq_true h1) (of_decide_eq_true h2) (by decide) (by decide)
theorem okPow_ok {i j : Int} (h : okPow i j = true) : CPow i j := by
  unfold okPow at h
  simp only [Bool.and_eq_true, decide_eq_true_eq] at h
  exact ⟨h.1, by omega, h.2.2⟩
theorem op_powD : OpR X (binaryOp .Pow) (rD X.K powD) := op_intC op_pow fun _ _ h => okPow_ok h
theorem op_shlD : OpR X (binaryOp .LShift) (rD X.K shlD) := op_intC op_shl fun _ _ h => okPow_ok h
theorem op_shrD : OpR X (binaryOp .RShift) (rD X.K shrD) := op_intC op_shr fun _ _ h => of_decide_eq_true h
theorem iop_subD : OpR X (inplaceOp .Sub) (rD X.K subD) := op_intD iop_sub
theorem iop_andD : OpR X (inplaceOp .BitAnd) (rD X.K andD) := op_intD iop_and
theorem iop_orD : OpR X (inplaceOp .BitOr) (rD X.K orD) := op_intD iop_or
theorem lstX {pins : List (Addr × Obj)} {σ : St} {H : Hp} {s : Shared} {a : Addr} {xs : List V} (I : Inv X pins σ H s) (h : SqX X.K H a xs) :
    ∃ (its : List Value) (n : Nat), Vals xs its ∧ xs.length = its.length ∧ xs.length ≤ sizeLine ∧ s.heap.get? a = some { cls := .type "list", dict := none, data := .seq its.toArray n, slots := #[] } := by
  rcases h with h | ⟨its, n, hk, hz, r⟩
  · obtain ⟨z, its, n, r, e⟩ := h.ok I.hok
    exact ⟨its, n, r, r.length, z, e⟩
  · have e := r.length
    refine ⟨its.toList, n, r, e, ?_, by simpa using I.kIn a _ hk⟩
    simp only [Array.length_toList] at e
    omega
/-- two lists that are read, one behind the other: a new one -/
theorem op_catL : OpR X (binaryOp .Add) (fun x y H Q => ∃ l b xs zs, x = .ref l ∧ y = .ref b ∧ SqX X.K H l xs ∧ SqX X.K H b zs ∧ xs.length + zs.length ≤ sizeLine ∧ ∀ p, H p = none → Q (.ref p) (upd H p (.lst (xs ++ zs)))) := by
  rintro pins s σ H x y v u Q I rx ry ⟨l, b, xs, zs, rfl, rfl, h1, h2, hz, q⟩
  cases rx; cases ry
  obtain ⟨i1, n1, v1, k1, _, o1⟩ := lstX I h1
  obtain ⟨i2, n2, v2, k2, _, o2⟩ := lstX I h2
  have both : Inv X pins σ (upd H s.heap.objs.size (.lst (xs ++ zs))) { s with heap := s.heap.push { cls := .type "list", data := .seq (i1.toArray ++ i2.toArray) } } := by
    have := I.lnew (t' := s.toks) (v1.append v2) (by rw [List.length_append]; exact hz)
    rwa [← List.append_toArray] at this
  exact PySem.P.add_list o1 o2 ⟨.ref s.heap.objs.size, _, both, rfl, q _ I.fresh⟩ (by rw [List.size_toArray, List.size_toArray, ← k1, ← k2]; exact hz)
/-! ### new tuples: their object is known -/
theorem laid_tup {pins : List (Addr × Obj)} {σ : St} {H : Hp} {s : Shared} {vs : List V} {its : List Value} {Q : VK} (I : Inv X pins σ H s) (r : Vals vs its) (z : vs.length ≤ sizeLine) (q : ∀ p o, Obj.dict o = none → H p = none → Q (.ref p) (upd H p (.frz o (.tup vs)))) :
    EP X pins σ Q (.ref s.heap.objs.size) { s with heap := s.heap.push { cls := .type "tuple", data := .seq its.toArray } } := by
  have hp : H s.heap.objs.size = none := I.hok.fresh (Nat.le_refl _)
  have e : (s.heap.push { cls := .type "tuple", data := .seq its.toArray }).get? s.heap.objs.size = some { cls := .type "tuple", data := .seq its.toArray } := Heap.get?_push_size _ rfl
  exact ⟨.ref s.heap.objs.size, _, I.laid (t' := s.toks) (o := .frz { cls := .type "tuple", data := .seq its.toArray } (.tup vs)) (fun b ob x => Heap.get?_push_of_some _ x) (Nat.le_refl _) ⟨e, z, its, r, _, e, rfl, _, rfl⟩, rfl, q _ _ rfl hp⟩
theorem op_catF : OpR X (binaryOp .Add) (fun x y H Q => ∃ a b xs ys, x = .ref a ∧ y = .ref b ∧ SqT X.K H a xs ∧ SqT X.K H b ys ∧ xs.length + ys.length ≤ sizeLine ∧
    (xs = [] → Q (.ref b) H) ∧ (xs ≠ [] → ys = [] → Q (.ref a) H) ∧ (xs ≠ [] → ys ≠ [] → ∀ p o, Obj.dict o = none → H p = none → Q (.ref p) (upd H p (.frz o (.tup (xs ++ ys)))))) := by
  rintro pins s σ H x y v u Q I rx ry ⟨a, b, xs, ys, rfl, rfl, ha, hb, hz, q0, q1, q2⟩
  cases rx
  cases ry
  obtain ⟨its, r1, p1, _⟩ := I.tuple ha
  obtain ⟨its2, r2, p2, _⟩ := I.tuple hb
  by_cases hx : xs = []
  · subst hx
    cases r1
    exact cat_tup0 p1 p2 ⟨.ref b, H, I, rfl, q0 rfl⟩
  · refine HT.cat_tup p1 p2 (fun z => hx (r1.nil_iff.mp z)) (fun z => ⟨.ref a, H, I, rfl, q1 hx (r2.nil_iff.mp z)⟩) (fun z => ?_) (by rw [← r1.length, ← r2.length]; exact hz)
    exact laid_tup I (r1.append r2) (by rw [List.length_append]; exact hz) (q2 hx fun w => z (r2.nil_iff.mpr w))
theorem op_addD : OpR X (binaryOp .Add) (rD X.K addD) := by
  rintro pins s σ H x y v u Q I rx ry ⟨c, W, σ', env, d1, d2, e, hs, r1, r2, hF, q⟩
  cases d1 with
  | int a =>
    cases d2 with
    | int b =>
      cases hF
      exact op_add pins s σ H x y v u Q I rx ry ⟨a, b, r1.int, r2.int, q _ W H Go.refl hs rfl⟩
    | _ => cases hF
  | str a =>
    cases d2 with
    | str b =>
      obtain ⟨h1, rfl⟩ := ite_some hF
      exact op_add_str pins s σ H x y v u Q I rx ry ⟨a, b, r1.str.1, r2.str.1, fits_ok h1, q _ W H Go.refl hs ⟨rfl, by rw [strLen_append']; exact fits_ok h1, strOk_append r1.str.2.2 r2.str.2.2⟩⟩
    | _ => cases hF
  | list a =>
    cases d2 with
    | list b =>
      obtain ⟨h1, rfl⟩ := ite_some hF
      obtain ⟨l, vs, rfl, q1, q2, _⟩ := r1.list
      obtain ⟨l', vs', rfl, q3, q4, _⟩ := r2.list
      exact op_catL pins s σ H _ _ v u Q I rx ry ⟨l, l', vs, vs', rfl, rfl, q1, q3, by rw [q2.length, q4.length]; exact fits_ok h1, new_list hs (q2.append q4) (by rw [List.length_append]; exact fits_ok h1) q⟩
    | _ => cases hF
  | tuple a =>
    cases d2 with
    | tuple b =>
      obtain ⟨h1, rfl⟩ := ite_some hF
      obtain ⟨l, vs, rfl, q1, q2, _⟩ := r1.tup
      obtain ⟨l', vs', rfl, q3, q4, _⟩ := r2.tup
      have r1' : Rep X.K W H (.tuple a) (.ref l) := r1.elim id fun ⟨_, _, z⟩ => z.elim
      have r2' : Rep X.K W H (.tuple b) (.ref l') := r2.elim id fun ⟨_, _, z⟩ => z.elim
      have n1 : vs = [] → a = [] := fun z => List.length_eq_zero_iff.mp (by rw [← q2.length, z]; rfl)
      have n2 : vs' = [] → b = [] := fun z => List.length_eq_zero_iff.mp (by rw [← q4.length, z]; rfl)
      refine op_catF pins s σ H _ _ v u Q I rx ry ⟨l, l', vs, vs', rfl, rfl, q1, q3, by rw [q2.length, q4.length]; exact fits_ok h1, fun z => ?_, fun _ z => ?_, fun _ _ => new_tup hs (q2.append q4) (by rw [List.length_append]; exact fits_ok h1) q⟩
      · refine q _ W H Go.refl hs ?_
        rw [n1 z, List.nil_append]
        exact r2'
      · refine q _ W H Go.refl hs ?_
        rw [n2 z, List.append_nil]
        exact r1'
    | _ => cases hF
  | _ => cases hF
theorem okMul_ok {a b : Int} (h : okMul a b = true) : CMul a b ∨ CMulW a b := by
  unfold okMul at h
  simp only [Bool.and_eq_true, Bool.or_eq_true, decide_eq_true_eq] at h
  rcases h with (h | h) | ⟨h1, h2⟩
  · exact .inl (.inl (by omega))
  · exact .inl (.inr (by omega))
  · exact .inr (wide_mul h1 h2 (by decide) (by decide) (by decide))
theorem RepL.rep {K : PySem.W.Frag} {W : Addr → Prop} {H : Hp} {ds : List D} {vs : List V} (h : RepL K W H ds vs) : ∀ k : Nat, RepL K W H (List.replicate k ds).flatten (List.replicate k vs).flatten
  | 0 => rfl
  | k + 1 => by
    rw [List.replicate_succ, List.replicate_succ, List.flatten_cons, List.flatten_cons]
    exact h.append (RepL.rep h k)
theorem op_mulD : OpR X (binaryOp .Mult) (rD X.K mulD) := by
  rintro pins s σ H x y v u Q I rx ry ⟨c, W, σ', env, d1, d2, e, hs, r1, r2, hF, q⟩
  cases d1 with
  | int a =>
    cases d2 with
    | int b =>
      obtain ⟨h1, rfl⟩ := ite_some hF
      rcases okMul_ok h1 with h1 | h1
      · exact op_mul pins s σ H x y v u Q I rx ry ⟨a, b, r1.int, r2.int, h1, q _ W H Go.refl hs rfl⟩
      · exact op_mulW pins s σ H x y v u Q I rx ry ⟨a, b, r1.int, r2.int, h1, q _ W H Go.refl hs rfl⟩
    | _ => cases hF
  | _ => cases hF
/-! ### comparisons -/
section
variable {pins : List (Addr × Obj)} {s : Shared} {σ : St} {H : Hp}
theorem two_reads {W : Addr → Prop} {d1 d2 : D} {x y : V} {u v : Value} (I : Inv X pins σ H s) (r1 : RepB X.K W H d1 x) (r2 : RepB X.K W H d2 y) (rx : RelV x u) (ry : RelV y v) :
    ∃ as bs, Reads s.heap u d1 as ∧ Reads s.heap v d2 bs := by
  obtain ⟨as, h1⟩ := Dp.reads I d1 x u r1.dp rx
  obtain ⟨bs, h2⟩ := Dp.reads I d2 y v r2.dp ry
  exact ⟨as, bs, h1, h2⟩
end
theorem op_eqD (hu : X.A.units + 100 < cLine) : OpR X (compareOp .Eq) (rD X.K eqD) := by
  rintro pins s σ H x y v u Q I rx ry ⟨c, W, σ', env, d1, d2, e, hs, r1, r2, hF, q⟩
  obtain ⟨h1, rfl⟩ := ite_some hF
  obtain ⟨as, bs, t1, t2⟩ := two_reads I r1 r2 rx ry
  have h2 : min d1.depth d2.depth ≤ 64 := of_decide_eq_true h1
  exact SeqAt.compareEq_reads t1 t2 r1.lay r2.lay (by omega) ⟨.bl _, H, I, rfl, q _ W H Go.refl hs rfl⟩
theorem op_neD (hu : X.A.units + 100 < cLine) : OpR X (compareOp .NotEq) (rD X.K neD) := by
  rintro pins s σ H x y v u Q I rx ry ⟨c, W, σ', env, d1, d2, e, hs, r1, r2, hF, q⟩
  obtain ⟨h1, rfl⟩ := ite_some hF
  obtain ⟨as, bs, t1, t2⟩ := two_reads I r1 r2 rx ry
  have h2 : min d1.depth d2.depth ≤ 64 := of_decide_eq_true h1
  exact SeqAt.compareNe_reads t1 t2 r1.lay r2.lay (by omega) ⟨.bl _, H, I, rfl, q _ W H Go.refl hs rfl⟩
theorem okLt_ok {a b : D} (h : okLt a b = true) : PySem.W.alike a b = true ∧ a ≠ .none ∧ min a.depth b.depth ≤ 64 := by
  unfold okLt at h
  simp only [Bool.and_eq_true] at h
  refine ⟨h.1, fun e => ?_, of_decide_eq_true h.2.2⟩
  rw [e] at h
  cases h.2.1
theorem op_ltD (hu : X.A.units + 100 < cLine) : OpR X (compareOp .Lt) (rD X.K ltD) := by
  rintro pins s σ H x y v u Q I rx ry ⟨c, W, σ', env, d1, d2, e, hs, r1, r2, hF, q⟩
  obtain ⟨h1, rfl⟩ := ite_some hF
  obtain ⟨h1, h2, h3⟩ := okLt_ok h1
  obtain ⟨as, bs, t1, t2⟩ := two_reads I r1 r2 rx ry
  exact PySem.W.lt_data t1 t2 h1 h2 (by omega) ⟨.bl _, H, I, rfl, q _ W H Go.refl hs rfl⟩
theorem op_gtD (hu : X.A.units + 100 < cLine) : OpR X (compareOp .Gt) (rD X.K gtD) := by
  rintro pins s σ H x y v u Q I rx ry ⟨c, W, σ', env, d1, d2, e, hs, r1, r2, hF, q⟩
  obtain ⟨h1, rfl⟩ := ite_some hF
  obtain ⟨h1, h2, h3⟩ := okLt_ok h1
  obtain ⟨as, bs, t1, t2⟩ := two_reads I r1 r2 rx ry
  exact PySem.W.gt_data t1 t2 h1 h2 (by omega) ⟨.bl _, H, I, rfl, q _ W H Go.refl hs rfl⟩
theorem op_leD (hu : X.A.units + 100 < cLine) : OpR X (compareOp .LtE) (rD X.K leD) := by
  rintro pins s σ H x y v u Q I rx ry ⟨c, W, σ', env, d1, d2, e, hs, r1, r2, hF, q⟩
  obtain ⟨h1, rfl⟩ := ite_some hF
  obtain ⟨h1, h2, h3⟩ := okLt_ok h1
  obtain ⟨as, bs, t1, t2⟩ := two_reads I r1 r2 rx ry
  exact PySem.W.le_data t1 t2 h1 h2 (by omega) ⟨.bl _, H, I, rfl, q _ W H Go.refl hs rfl⟩
theorem op_geD (hu : X.A.units + 100 < cLine) : OpR X (compareOp .GtE) (rD X.K geD) := by
  rintro pins s σ H x y v u Q I rx ry ⟨c, W, σ', env, d1, d2, e, hs, r1, r2, hF, q⟩
  obtain ⟨h1, rfl⟩ := ite_some hF
  obtain ⟨h1, h2, h3⟩ := okLt_ok h1
  obtain ⟨as, bs, t1, t2⟩ := two_reads I r1 r2 rx ry
  exact PySem.W.ge_data t1 t2 h1 h2 (by omega) ⟨.bl _, H, I, rfl, q _ W H Go.refl hs rfl⟩
theorem map_some {k : Option Bool} {f : Bool → Ent} {e : Ent} (h : k.map f = some e) : ∃ b, k = some b ∧ f b = e := by
  cases k with
  | none => cases h
  | some b => exact ⟨b, rfl, Option.some.inj h⟩
theorem op_inD' (hu : X.A.units + 100 < cLine) : OpR X (compareOp .In) (rD X.K inD) := by
  rintro pins s σ H x y v u Q I rx ry ⟨c, W, σ', env, d1, d2, e, hs, r1, r2, hF, q⟩
  obtain ⟨k, hG, rfl⟩ := map_some hF
  obtain ⟨as, bs, t1, t2⟩ := two_reads I r1 r2 rx ry
  cases d2 with
  | list xs =>
    obtain ⟨h1, rfl⟩ := ite_some (show (if decide (d1.depth ≤ 64) then some (xs.any fun z => PyData.eqv z d1) else none) = some k from by cases d1 <;> exact hG)
    have h2 : d1.depth ≤ 64 := of_decide_eq_true h1
    exact SeqAt.in_list_reads t2 t1 r2.lay r1.lay (by omega) ⟨.bl _, H, I, rfl, q _ W H Go.refl hs rfl⟩
  | tuple xs =>
    obtain ⟨h1, rfl⟩ := ite_some (show (if decide (d1.depth ≤ 64) then some (xs.any fun z => PyData.eqv z d1) else none) = some k from by cases d1 <;> exact hG)
    have h2 : d1.depth ≤ 64 := of_decide_eq_true h1
    exact SeqAt.in_tuple_reads t2 t1 r2.lay r1.lay (by omega) ⟨.bl _, H, I, rfl, q _ W H Go.refl hs rfl⟩
  | str b =>
    cases d1 with
    | str a =>
      cases hG
      exact op_in_str pins s σ H x y v u Q I rx ry ⟨a, b, r1.str.1, r2.str.1, q _ W H Go.refl hs rfl⟩
    | _ => cases hG
  | _ => cases d1 <;> cases hG
theorem op_notInD' (hu : X.A.units + 100 < cLine) : OpR X (compareOp .NotIn) (rD X.K notInD) := by
  rintro pins s σ H x y v u Q I rx ry ⟨c, W, σ', env, d1, d2, e, hs, r1, r2, hF, q⟩
  obtain ⟨k, hG, rfl⟩ := map_some hF
  obtain ⟨as, bs, t1, t2⟩ := two_reads I r1 r2 rx ry
  cases d2 with
  | list xs =>
    obtain ⟨h1, rfl⟩ := ite_some (show (if decide (d1.depth ≤ 64) then some (xs.any fun z => PyData.eqv z d1) else none) = some k from by cases d1 <;> exact hG)
    have h2 : d1.depth ≤ 64 := of_decide_eq_true h1
    exact SeqAt.notIn_list_reads t2 t1 r2.lay r1.lay (by omega) ⟨.bl _, H, I, rfl, q _ W H Go.refl hs rfl⟩
  | tuple xs =>
    obtain ⟨h1, rfl⟩ := ite_some (show (if decide (d1.depth ≤ 64) then some (xs.any fun z => PyData.eqv z d1) else none) = some k from by cases d1 <;> exact hG)
    have h2 : d1.depth ≤ 64 := of_decide_eq_true h1
    exact SeqAt.notIn_tuple_reads t2 t1 r2.lay r1.lay (by omega) ⟨.bl _, H, I, rfl, q _ W H Go.refl hs rfl⟩
  | str b =>
    cases d1 with
    | str a =>
      cases hG
      exact op_notIn_str pins s σ H x y v u Q I rx ry ⟨a, b, r1.str.1, r2.str.1, q _ W H Go.refl hs rfl⟩
    | _ => cases hG
  | _ => cases d1 <;> cases hG
theorem RepB.isNone {K : PySem.W.Frag} {W : Addr → Prop} {H : Hp} {d : D} {v : V} (r : RepB K W H d v) : decide (v = .non) = DL.isNone d := by
  rcases r with r | ⟨a, rfl, r⟩
  · cases d with
    | none => rw [show v = V.non from r]; rfl
    | bool b => rw [show v = V.bl b from r]; rfl
    | int b => rw [show v = V.int b from r]; rfl
    | str b => rw [show v = V.str b from r.1]; rfl
    | list xs => obtain ⟨a, vs, rfl, _⟩ := r; rfl
    | tuple xs => obtain ⟨a, vs, rfl, _⟩ := r; rfl
    | dict _ => exact r.elim
  · cases d with
    | list xs => rfl
    | _ => exact r.elim
theorem isNone_eq {d : D} (h : isNone d = true) : d = .none := by
  cases d with
  | none => rfl
  | _ => cases h
theorem op_isD : OpR X (compareOp .Is) (rD X.K isD) := by
  rintro pins s σ H x y v u Q I rx ry ⟨c, W, σ', env, d1, d2, e, hs, r1, r2, hF, q⟩
  obtain ⟨h1, rfl⟩ := ite_some hF
  have e2 := isNone_eq h1
  subst e2
  refine op_isN pins s σ H x y v u Q I rx ry ⟨r2.none, ?_⟩
  rw [r1.isNone]
  exact q _ W H Go.refl hs rfl
theorem op_isNotD : OpR X (compareOp .IsNot) (rD X.K isNotD) := by
  rintro pins s σ H x y v u Q I rx ry ⟨c, W, σ', env, d1, d2, e, hs, r1, r2, hF, q⟩
  obtain ⟨h1, rfl⟩ := ite_some hF
  have e2 := isNone_eq h1
  subst e2
  refine op_notN pins s σ H x y v u Q I rx ry ⟨r2.none, ?_⟩
  rw [r1.isNone]
  exact q _ W H Go.refl hs rfl
end
end DL
end
section
set_option maxRecDepth 100000
set_option maxHeartbeats 1000000
/-! DL5: tests, displays, built-in functions, subscripts -/
namespace DL
open PySem PySem.Spec L2
open PyProof.Rows hiding St

/-! ### tests, and, or, not, if -/
section
variable {B : Bx} {a b e : Expr} {rest : List Expr} {pos : Pos}
def dTest (f : M D) : M Bool := fun env => match f env with
  | .ok (.bool b) env' => .ok b env'
  | .ok _ _ => .bad
  | .bad => .bad
  | .ex c d env' => .ex c d env'
theorem test_ok {c : Cl} {σ : St} {f : M D} {env : En} {P : Bool → En → Prop} {X : Str → D → En → Prop} (h : (dTest f env).Is P X) : (f env).Is (fun d env' => ∃ b, d = .bool b ∧ P b env') X := by
  unfold dTest at h
  cases q : f env with
  | bad => rw [q] at h; exact h
  | ex k d env' => rw [q] at h; exact h
  | ok d env' =>
    rw [q] at h
    cases d with
    | bool b => exact ⟨b, rfl, h⟩
    | _ => exact h.elim
/-- an expression whose value is a bool -/
theorem et_val {f : M D} (h : EvF B e f) (he : ∀ whole, isTrue e B.X.env whole = (do let v ← whole; standAt e.pos; holding [v] (truthy v)) := by intro _; rfl) : EvT B e (dTest f) := by
  obtain ⟨t, p, h⟩ := h
  refine ⟨_, pt_val p he, fun c W H σ env Q hc s hq => h c W H σ env _ hc s ((test_ok (c := c) (σ := σ) hq).imp (fun d env' h1 v W' H' g s' r => ?_) fun _ _ _ z => z)⟩
  obtain ⟨k, rfl, h1⟩ := h1
  exact ⟨k, r, h1 W' H' g s'⟩
variable {f g : M Pl} {F : D → D → Option Ent}
theorem et_cmp {op : CmpOp} (ho : OpR B.X (compareOp op) (rD B.X.K F)) (ha : EvB B a f) (hb : EvB B b g) (hm : behindInMarks op b = false) : EvT B (.Compare a [op] [b] pos) (dTest (mF (dBin F f g))) := by
  obtain ⟨ta, pa, ha⟩ := ha
  obtain ⟨tb, pb, hb⟩ := hb
  refine ⟨_, pt_cmpR ho pa pb hm, fun c W H σ env Q hc s hq => ?_⟩
  have h1 := test_ok (c := c) (σ := σ) hq
  refine two_ok ha hb hc s (h := fun p q env => match p.get env, q.get env with
    | some d1, some d2 => (match F d1 d2 with
      | some e => .ok e env
      | none => .bad)
    | _, _ => .bad) (Q := fun x H' => ∃ k, x = .bl k ∧ Q k H') ?_ fun p q x y W2 H2 env2 g2 s2 r1 r2 h => rd_of s2 r1 r2 h
  unfold mF at h1
  show (dBin F f g env).Is _ _
  cases q : dBin F f g env with
  | bad => rw [q] at h1; exact h1
  | ex k d env' => rw [q] at h1; exact h1
  | ok x env' =>
    rw [q] at h1
    intro v W' H' g' s' r
    cases x with
    | fz d =>
      obtain ⟨k, rfl, h1⟩ := h1
      exact ⟨k, r, h1 W' H' g' s'⟩
    | ow d =>
      obtain ⟨k, rfl, h1⟩ := h1
      obtain ⟨_, _, _, _, r, _⟩ := r
      exact r.elim
    | no => exact h1.elim
    | io _ => exact h1.elim
    | xc _ _ => exact h1.elim
def dNot (f : M D) : M D := fun env => match f env with
  | .ok (.bool b) env' => .ok (.bool (!b)) env'
  | .ok _ _ => .bad
  | .bad => .bad
  | .ex c d env' => .ex c d env'
theorem ev_not {f : M D} (h : EvF B a f) : EvF B (.UnaryOp .Not a pos) (dNot f) := by
  obtain ⟨t, p, h⟩ := h
  refine ⟨_, pe_not p, fun c W H σ env Q hc s hq => h c W H σ env _ hc s ?_⟩
  unfold dNot at hq
  cases q : f env with
  | bad => rw [q] at hq; exact hq
  | ex k d env' => rw [q] at hq; exact hq
  | ok d env' =>
    rw [q] at hq
    cases d with
    | bool b => exact fun v W' H' g s' r => ⟨b, r, hq _ W' H' g s' rfl⟩
    | _ => exact hq.elim
def dAnd (f g : M D) : M D := fun env => match f env with
  | .ok (.bool true) env' => g env'
  | .ok (.bool false) env' => .ok (.bool false) env'
  | .ok _ _ => .bad
  | .bad => .bad
  | .ex c d env' => .ex c d env'
def dOr (f g : M D) : M D := fun env => match f env with
  | .ok (.bool true) env' => .ok (.bool true) env'
  | .ok (.bool false) env' => g env'
  | .ok _ _ => .bad
  | .bad => .bad
  | .ex c d env' => .ex c d env'
theorem ev_one {op : BoolOp} {f : M D} (h : EvF B a f) : EvF B (.BoolOp op [a] pos) f := by
  obtain ⟨t, p, h⟩ := h
  exact ⟨t, pe_one p, h⟩
theorem ev_and {f g : M D} (ha : EvF B a f) (hb : EvF B (.BoolOp .And (b :: rest) pos) g) : EvF B (.BoolOp .And (a :: b :: rest) pos) (dAnd f g) := by
  obtain ⟨ta, pa, ha⟩ := ha
  obtain ⟨tb, pb, hb⟩ := hb
  refine ⟨_, pe_and pa pb, fun c W H σ env Q hc s hq => ha c W H σ env _ hc s ?_⟩
  unfold dAnd at hq
  cases q : f env with
  | bad => rw [q] at hq; exact hq
  | ex k d env' => rw [q] at hq; exact hq
  | ok d env' =>
    rw [q] at hq
    cases d with
    | bool k =>
      intro v W' H' g s' r
      refine ⟨k, r, ?_⟩
      cases k with
      | true => exact hb c W' H' σ env' Q hc s' (hq.imp (fun d2 env2 h2 v2 W2 H2 g2 s2 r2 => h2 v2 W2 H2 (g.trans g2) s2 r2) fun _ _ _ z => z.go g)
      | false => exact hq _ W' H' g s' rfl
    | _ => exact hq.elim
theorem ev_or {f g : M D} (ha : EvF B a f) (hb : EvF B (.BoolOp .Or (b :: rest) pos) g) : EvF B (.BoolOp .Or (a :: b :: rest) pos) (dOr f g) := by
  obtain ⟨ta, pa, ha⟩ := ha
  obtain ⟨tb, pb, hb⟩ := hb
  refine ⟨_, pe_or pa pb, fun c W H σ env Q hc s hq => ha c W H σ env _ hc s ?_⟩
  unfold dOr at hq
  cases q : f env with
  | bad => rw [q] at hq; exact hq
  | ex k d env' => rw [q] at hq; exact hq
  | ok d env' =>
    rw [q] at hq
    cases d with
    | bool k =>
      intro v W' H' g s' r
      refine ⟨k, r, ?_⟩
      cases k with
      | false => exact hb c W' H' σ env' Q hc s' (hq.imp (fun d2 env2 h2 v2 W2 H2 g2 s2 r2 => h2 v2 W2 H2 (g.trans g2) s2 r2) fun _ _ _ z => z.go g)
      | true => exact hq _ W' H' g s' rfl
    | _ => exact hq.elim
/-- a test whatever its whole -/
def EvW (B : Bx) (e : Expr) (f : M Bool) : Prop := ∃ t, PW B.X e t ∧ ∀ c W H σ env Q, B.C c → SR B.X.K c W H σ env →
  (f env).Is (fun b env' => ∀ W' H', Go W H W' H' → SR B.X.K c W' H' σ env' → Q b H') (B.XP c W H σ) → t σ H Q
theorem EvW.t {f : M Bool} (h : EvW B e f) : EvT B e f := let ⟨t, p, h⟩ := h; ⟨t, p.pt, h⟩
theorem ew_and1 {f : M Bool} (h : EvT B a f) : EvW B (.BoolOp .And [a] pos) f := let ⟨t, p, h⟩ := h; ⟨t, pw_and1 p, h⟩
theorem ew_or1 {f : M Bool} (h : EvT B a f) : EvW B (.BoolOp .Or [a] pos) f := let ⟨t, p, h⟩ := h; ⟨t, pw_or1 p, h⟩
def dAndT (f g : M Bool) : M Bool := fun env => match f env with
  | .ok true env' => g env'
  | .ok false env' => .ok false env'
  | .bad => .bad
  | .ex c d env' => .ex c d env'
def dOrT (f g : M Bool) : M Bool := fun env => match f env with
  | .ok true env' => .ok true env'
  | .ok false env' => g env'
  | .bad => .bad
  | .ex c d env' => .ex c d env'
def dNotT (f : M Bool) : M Bool := fun env => match f env with
  | .ok b env' => .ok (!b) env'
  | .bad => .bad
  | .ex c d env' => .ex c d env'
theorem ew_and {f g : M Bool} (ha : EvT B a f) (hb : EvW B (.BoolOp .And (b :: rest) pos) g) : EvW B (.BoolOp .And (a :: b :: rest) pos) (dAndT f g) := by
  obtain ⟨ta, pa, ha⟩ := ha
  obtain ⟨tb, pb, hb⟩ := hb
  refine ⟨_, pw_and pa pb, fun c W H σ env Q hc s hq => ha c W H σ env _ hc s ?_⟩
  unfold dAndT at hq
  cases q : f env with
  | bad => rw [q] at hq; exact hq
  | ex k d env' => rw [q] at hq; exact hq
  | ok k env' =>
    rw [q] at hq
    intro W' H' g s'
    cases k with
    | true =>
      rw [if_pos rfl]
      exact hb c W' H' σ env' Q hc s' (hq.imp (fun d2 env2 h2 W2 H2 g2 s2 => h2 W2 H2 (g.trans g2) s2) fun _ _ _ z => z.go g)
    | false =>
      rw [if_neg Bool.false_ne_true]
      exact hq W' H' g s'
theorem ew_or {f g : M Bool} (ha : EvT B a f) (hb : EvW B (.BoolOp .Or (b :: rest) pos) g) : EvW B (.BoolOp .Or (a :: b :: rest) pos) (dOrT f g) := by
  obtain ⟨ta, pa, ha⟩ := ha
  obtain ⟨tb, pb, hb⟩ := hb
  refine ⟨_, pw_or pa pb, fun c W H σ env Q hc s hq => ha c W H σ env _ hc s ?_⟩
  unfold dOrT at hq
  cases q : f env with
  | bad => rw [q] at hq; exact hq
  | ex k d env' => rw [q] at hq; exact hq
  | ok k env' =>
    rw [q] at hq
    intro W' H' g s'
    cases k with
    | true =>
      rw [if_pos rfl]
      exact hq W' H' g s'
    | false =>
      rw [if_neg Bool.false_ne_true]
      exact hb c W' H' σ env' Q hc s' (hq.imp (fun d2 env2 h2 W2 H2 g2 s2 => h2 W2 H2 (g.trans g2) s2) fun _ _ _ z => z.go g)
theorem et_not {f : M Bool} (h : EvT B a f) : EvT B (.UnaryOp .Not a pos) (dNotT f) := by
  obtain ⟨t, p, h⟩ := h
  refine ⟨_, pt_not p, fun c W H σ env Q hc s hq => h c W H σ env _ hc s ?_⟩
  unfold dNotT at hq
  cases q : f env with
  | bad => rw [q] at hq; exact hq
  | ex k d env' => rw [q] at hq; exact hq
  | ok d env' => rw [q] at hq; exact hq
def dIf {α : Type} (c : M Bool) (f g : M α) : M α := fun env => match c env with
  | .ok true env' => f env'
  | .ok false env' => g env'
  | .bad => .bad
  | .ex c d env' => .ex c d env'
theorem ev_if {c : Expr} {t : M Bool} {f g : M D} (hc : EvT B c t) (ha : EvF B a f) (hb : EvF B b g) : EvF B (.IfExp c a b pos) (dIf t f g) := by
  obtain ⟨tc, pc, hc⟩ := hc
  obtain ⟨ta, pa, ha⟩ := ha
  obtain ⟨tb, pb, hb⟩ := hb
  refine ⟨_, pe_ifExp pc pa pb, fun c W H σ env Q hC s hq => hc c W H σ env _ hC s ?_⟩
  unfold dIf at hq
  cases q : t env with
  | bad => rw [q] at hq; exact hq
  | ex k d env' => rw [q] at hq; exact hq
  | ok k env' =>
    rw [q] at hq
    intro W' H' g s'
    cases k with
    | true =>
      rw [if_pos rfl]
      exact ha c W' H' σ env' Q hC s' (hq.imp (fun d2 env2 h2 v W2 H2 g2 s2 => h2 v W2 H2 (g.trans g2) s2) fun _ _ _ z => z.go g)
    | false =>
      rw [if_neg Bool.false_ne_true]
      exact hb c W' H' σ env' Q hC s' (hq.imp (fun d2 env2 h2 v W2 H2 g2 s2 => h2 v W2 H2 (g.trans g2) s2) fun _ _ _ z => z.go g)
theorem eo_if {c : Expr} {t : M Bool} {f g : M Ent} (hc : EvT B c t) (ha : EvO B a f) (hb : EvO B b g) : EvO B (.IfExp c a b pos) (dIf t f g) := by
  obtain ⟨tc, pc, hc⟩ := hc
  obtain ⟨ta, pa, ha⟩ := ha
  obtain ⟨tb, pb, hb⟩ := hb
  refine ⟨_, pe_ifExp pc pa pb, fun c W H σ env Q hC s hq => hc c W H σ env _ hC s ?_⟩
  unfold dIf at hq
  cases q : t env with
  | bad => rw [q] at hq; exact hq
  | ex k d env' => rw [q] at hq; exact hq
  | ok k env' =>
    rw [q] at hq
    intro W' H' g s'
    cases k with
    | true =>
      rw [if_pos rfl]
      exact ha c W' H' σ env' Q hC s' (hq.imp (fun d2 env2 h2 v W2 H2 g2 s2 => h2 v W2 H2 (g.trans g2) s2) fun _ _ _ z => z.go g)
    | false =>
      rw [if_neg Bool.false_ne_true]
      exact hb c W' H' σ env' Q hC s' (hq.imp (fun d2 env2 h2 v W2 H2 g2 s2 => h2 v W2 H2 (g.trans g2) s2) fun _ _ _ z => z.go g)
end

/-! ### arguments, displays -/
section
variable {B : Bx} {e : Expr} {es : List Expr} {pos : Pos}
theorem ea_nil : EvA B [] (M.pure []) := ⟨_, pa_nil, fun c W H σ env Q hc s hq => hq _ _ _ Go.refl s rfl⟩
def dCons (f : M D) (g : M (List D)) : M (List D) := M.bind f fun d => M.bind g fun ds => M.pure (d :: ds)
theorem ea_cons {f : M D} {g : M (List D)} (h : EvF B e f) (hr : EvA B es g) (hs : starEach (e :: es) B.X.env = (false, eval e B.X.env) :: starEach es B.X.env := by rfl) : EvA B (e :: es) (dCons f g) := by
  obtain ⟨t, p, h⟩ := h
  obtain ⟨tr, pr, hr⟩ := hr
  refine ⟨_, pa_cons p pr hs, fun c W H σ env Q hc s hq => ?_⟩
  refine h c W H σ env _ hc s ((Is_bind hq).imp (fun d env1 h1 v W1 H1 g1 s1 r1 => ?_) fun _ _ _ z => z)
  refine hr c W1 H1 σ env1 _ hc s1 ((Is_bind h1).imp (fun ds env2 h2 vs W2 H2 g2 s2 r2 => ?_) fun _ _ _ z => z.go g1)
  exact h2 (v :: vs) W2 H2 (g1.trans g2) s2 ⟨v, vs, rfl, r1.go g2, r2⟩
def dTup (f : M (List D)) : M D := fun env => match f env with
  | .ok ds env' => if fits ds.length then .ok (.tuple ds) env' else .bad
  | .bad => .bad
  | .ex c d env' => .ex c d env'
def tTupF (t : TA) : TE := fun σ H Q => t σ H fun xs H1 => xs.length ≤ sizeLine ∧ ∀ p o, Obj.dict o = none → H1 p = none → Q (.ref p) (upd H1 p (.frz o (.tup xs)))
theorem pe_tupF {X : Cx} {k : Nat} {t : TA} (h : PA X es t) : PE X (.Tuple es k pos) (tTupF t) := by
  refine ⟨fun pins s σ H Q I hq => ?_⟩
  exact wpAny_Tuple_spliced (thn (h.run pos pins s σ H _ I hq) fun us s1 ⟨xs, H1, I1, r, z, q⟩ => ⟨by rw [← r.length]; exact z, laid_tup I1 r z q⟩)
theorem ev_tup {f : M (List D)} {k : Nat} (h : EvA B es f) : EvF B (.Tuple es k pos) (dTup f) := by
  obtain ⟨t, p, h⟩ := h
  refine ⟨_, pe_tupF p, fun c W H σ env Q hc s hq => h c W H σ env _ hc s ?_⟩
  unfold dTup at hq
  cases q : f env with
  | bad => rw [q] at hq; exact hq
  | ex k d env' => rw [q] at hq; exact hq
  | ok ds env' =>
    rw [q] at hq
    dsimp only at hq
    cases z : fits ds.length with
    | false => rw [z] at hq; exact hq.elim
    | true =>
      rw [z] at hq
      exact fun vs W' H' g s' r => ⟨by rw [r.length]; exact fits_ok z, new_tup s' r (fits_ok z) fun v W2 H2 g2 s2 r2 => hq v W2 H2 (g.trans g2) s2 r2⟩
def dLst (f : M (List D)) : M Ent := fun env => match f env with
  | .ok ds env' => if fits ds.length then .ok (.ow (.list ds)) env' else .bad
  | .bad => .bad
  | .ex c d env' => .ex c d env'
theorem eo_lst {f : M (List D)} (h : EvA B es f) : EvO B (.List es pos) (dLst f) := by
  obtain ⟨t, p, h⟩ := h
  refine ⟨_, pe_lst p, fun c W H σ env Q hc s hq => h c W H σ env _ hc s ?_⟩
  unfold dLst at hq
  cases q : f env with
  | bad => rw [q] at hq; exact hq
  | ex k d env' => rw [q] at hq; exact hq
  | ok ds env' =>
    rw [q] at hq
    dsimp only at hq
    cases z : fits ds.length with
    | false => rw [z] at hq; exact hq.elim
    | true =>
      rw [z] at hq
      exact fun vs W' H' g s' r => ⟨by rw [r.length]; exact fits_ok z, new_list s' r (fits_ok z) fun v W2 H2 g2 s2 r2 => hq v W2 H2 (g.trans g2) s2 r2⟩
theorem len_rep {α : Type} (xs : List α) (k : Nat) : (List.replicate k xs).flatten.length = xs.length * k := by
  induction k with
  | zero => simp
  | succ k ih => rw [List.replicate_succ, List.flatten_cons, List.length_append, ih, Nat.mul_succ, Nat.add_comm]
/-- [..] * k -/
def dRep (f : M Ent) (k : Int) : M Ent := fun env => match f env with
  | .ok (.ow (.list xs)) env' => if fits (xs.length * k.toNat) then .ok (.ow (.list (List.replicate k.toNat xs).flatten)) env' else .bad
  | .ok _ _ => .bad
  | .bad => .bad
  | .ex c d env' => .ex c d env'
theorem eo_rep {f : M Ent} {k : Int} {j : Nat} {p2 : Pos} (h : EvO B e f) (hk : (decide (-(2 ^ 62) ≤ k) && decide (k < 2 ^ 62)) = true) : EvO B (.BinOp e .Mult (.Constant (.int k) j p2) pos) (dRep f k) := by
  obtain ⟨t, p, h⟩ := h
  simp only [Bool.and_eq_true, decide_eq_true_eq] at hk
  refine ⟨_, pe_op op_rep p pe_int, fun c W H σ env Q hc s hq => h c W H σ env _ hc s ?_⟩
  unfold dRep at hq
  cases q : f env with
  | bad => rw [q] at hq; exact hq
  | ex k d env' => rw [q] at hq; exact hq
  | ok x env' =>
    rw [q] at hq
    cases x with
    | ow d =>
      cases d with
      | list xs =>
        dsimp only at hq
        cases z : fits (xs.length * k.toNat) with
        | false => rw [z] at hq; exact hq.elim
        | true =>
          rw [z] at hq
          intro v W' H' g s' r
          obtain ⟨a, rfl, w1, w2, ⟨vs, h1, r1, _⟩, w3⟩ := r
          exact ⟨a, k, vs, rfl, rfl, h1, by omega, by omega, by rw [r1.length]; exact fits_ok z, new_list s' (r1.rep _) (by rw [len_rep]; exact fits_ok z) fun v W2 H2 g2 s2 r2 => hq v W2 H2 (g.trans g2) s2 r2⟩
      | _ => exact hq.elim
    | _ => exact hq.elim
/-! ### arguments that are looked at -/
def RepPs (K : PySem.W.Frag) (W : Addr → Prop) (H : Hp) (σ : St) : List Pl → List V → Prop
  | [], vs => vs = []
  | p :: ps, vs => ∃ v r, vs = v :: r ∧ RepP K W H σ p v ∧ RepPs K W H σ ps r
theorem RepPs.go {K : PySem.W.Frag} {W W' : Addr → Prop} {H H' : Hp} {σ : St} (g : Go W H W' H') : ∀ {ps : List Pl} {vs : List V}, RepPs K W H σ ps vs → RepPs K W' H' σ ps vs
  | [], _, h => h
  | p :: ps, vs, ⟨v, r, e, h1, h2⟩ => ⟨v, r, e, h1.go g, RepPs.go g h2⟩
def RepBs (K : PySem.W.Frag) (W : Addr → Prop) (H : Hp) : List D → List V → Prop
  | [], vs => vs = []
  | d :: ds, vs => ∃ v r, vs = v :: r ∧ RepB K W H d v ∧ RepBs K W H ds r
def getAll (env : En) : List Pl → Option (List D)
  | [] => some []
  | p :: ps => match p.get env, getAll env ps with
    | some d, some ds => some (d :: ds)
    | _, _ => none
theorem look_all {K : PySem.W.Frag} {c : Cl} {W : Addr → Prop} {H : Hp} {σ : St} {env : En} (s : SR K c W H σ env) : ∀ {ps : List Pl} {vs : List V} {ds : List D}, RepPs K W H σ ps vs → getAll env ps = some ds → RepBs K W H ds vs
  | [], vs, ds, h, g => by cases g; exact h
  | p :: ps, vs, ds, ⟨v, r, e, h1, h2⟩, g => by
    unfold getAll at g
    cases q : p.get env with
    | none => rw [q] at g; cases g
    | some d =>
      cases q2 : getAll env ps with
      | none => rw [q, q2] at g; cases g
      | some ds' =>
        rw [q, q2] at g
        cases g
        exact ⟨v, r, e, s.look h1 q, look_all s h2 q2⟩
def EvP (B : Bx) (es : List Expr) (f : M (List Pl)) : Prop := ∃ t, PA B.X es t ∧ ∀ c W H σ env Q, B.C c → SR B.X.K c W H σ env →
  (f env).Is (fun ps env' => ∀ vs W' H', Go W H W' H' → SR B.X.K c W' H' σ env' → RepPs B.X.K W' H' σ ps vs → Q vs H') (B.XP c W H σ) → t σ H Q
theorem ep_nil : EvP B [] (M.pure []) := ⟨_, pa_nil, fun c W H σ env Q hc s hq => hq _ _ _ Go.refl s rfl⟩
def dConsP (f : M Pl) (g : M (List Pl)) : M (List Pl) := M.bind f fun d => M.bind g fun ds => M.pure (d :: ds)
theorem ep_cons {f : M Pl} {g : M (List Pl)} (h : EvB B e f) (hr : EvP B es g) (hs : starEach (e :: es) B.X.env = (false, eval e B.X.env) :: starEach es B.X.env := by rfl) : EvP B (e :: es) (dConsP f g) := by
  obtain ⟨t, p, h⟩ := h
  obtain ⟨tr, pr, hr⟩ := hr
  refine ⟨_, pa_cons p pr hs, fun c W H σ env Q hc s hq => ?_⟩
  refine h c W H σ env _ hc s ((Is_bind hq).imp (fun d env1 h1 v W1 H1 g1 s1 r1 => ?_) fun _ _ _ z => z)
  refine hr c W1 H1 σ env1 _ hc s1 ((Is_bind h1).imp (fun ds env2 h2 vs W2 H2 g2 s2 r2 => ?_) fun _ _ _ z => z.go g1)
  exact h2 (v :: vs) W2 H2 (g1.trans g2) s2 ⟨v, vs, rfl, r1.go g2, r2⟩
/-! ### built-in functions -/
/-- F says what a call on values gives -/
def rC (K : PySem.W.Frag) (F : List D → Option Ent) : List V → Hp → VK → Prop := fun xs H Q => ∃ c W σ env ds e, SR K c W H σ env ∧ RepBs K W H ds xs ∧ F ds = some e ∧
  ∀ v W' H', Go W H W' H' → SR K c W' H' σ env → RepE K c W' H' σ env e v → Q v H'
def dCallB (F : List D → Option Ent) (f : M (List Pl)) : M Ent := fun env => match f env with
  | .ok ps env' => (match getAll env' ps with
    | some ds => (match F ds with
      | some e => .ok e env'
      | none => .bad)
    | none => .bad)
  | .bad => .bad
  | .ex c d env' => .ex c d env'
theorem callB_ok {F : List D → Option Ent} {f : M (List Pl)} {t : TA} {c : Cl} {W : Addr → Prop} {H : Hp} {σ : St} {env : En} {Q : VK}
    (h : ∀ c W H σ env Q, B.C c → SR B.X.K c W H σ env → (f env).Is (fun ps env' => ∀ vs W' H', Go W H W' H' → SR B.X.K c W' H' σ env' → RepPs B.X.K W' H' σ ps vs → Q vs H') (B.XP c W H σ) → t σ H Q)
    (hc : B.C c) (s : SR B.X.K c W H σ env) (hq : (dCallB F f env).Is (fun x env' => ∀ v W' H', Go W H W' H' → SR B.X.K c W' H' σ env' → RepE B.X.K c W' H' σ env' x v → Q v H') (B.XP c W H σ)) :
    tCB (rC B.X.K F) t σ H Q := by
  refine h c W H σ env _ hc s ?_
  unfold dCallB at hq
  cases q : f env with
  | bad => rw [q] at hq; exact hq
  | ex k d env' => rw [q] at hq; exact hq
  | ok ps env' =>
    rw [q] at hq
    dsimp only at hq
    cases q2 : getAll env' ps with
    | none => rw [q2] at hq; exact hq.elim
    | some ds =>
      rw [q2] at hq
      dsimp only at hq
      cases q3 : F ds with
      | none => rw [q3] at hq; exact hq.elim
      | some x =>
        rw [q3] at hq
        exact fun vs W' H' g s' r => ⟨c, W', σ, env', ds, x, s', look_all s' r q2, q3, fun v W2 H2 g2 s2 r2 => hq v W2 H2 (g.trans g2) s2 r2⟩
variable {x : Str} {p : Pos} {id T : String}
theorem eo_callB {F : List D → Option Ent} {f : M (List Pl)} (hc : CallR B.X (.builtin id) (rC B.X.K F)) (hg : Gl B.X x) (hm : B.X.mg x = none) (hv : bootBuiltins x = some (.builtin id)) (ha : EvP B (e :: es) f)
    (hn : x ≠ "__name__" := by decide +kernel) (hd : (x == ("__debug__" : Str)) = false := by decide +kernel) (hs : starEach (e :: es) B.X.env = (false, eval e B.X.env) :: starEach es B.X.env := by rfl) (hpl : (backTo pos (starEach es B.X.env)).any (·.1) = false := by rfl) : EvO B (.Call (.Name x p) (e :: es) [] pos) (dCallB F f) := by
  obtain ⟨t, pt, h⟩ := ha
  exact ⟨_, pe_callB hc hg hm hv pt hn hd hs hpl, fun c W H σ env Q hC s hq => callB_ok h hC s hq⟩
theorem eo_callTy {F : List D → Option Ent} {f : M (List Pl)} (hc : CallR B.X (.type T) (rC B.X.K F)) (hg : Gl B.X x) (hm : B.X.mg x = none) (hv : bootBuiltins x = some (.type T)) (ha : EvP B (e :: es) f)
    (hn : x ≠ "__name__" := by decide +kernel) (hd : (x == ("__debug__" : Str)) = false := by decide +kernel) (hs : starEach (e :: es) B.X.env = (false, eval e B.X.env) :: starEach es B.X.env := by rfl) (hpl : (backTo pos (starEach es B.X.env)).any (·.1) = false := by rfl) : EvO B (.Call (.Name x p) (e :: es) [] pos) (dCallB F f) := by
  obtain ⟨t, pt, h⟩ := ha
  exact ⟨_, pe_callTy hc hg hm hv pt hn hd hs hpl, fun c W H σ env Q hC s hq => callB_ok h hC s hq⟩
end
end DL
end
section
set_option maxRecDepth 100000
set_option maxHeartbeats 1000000
/-! DL6: built-in functions, isinstance, subscripts, slices -/
namespace DL
open PySem PySem.Spec L2
open PyProof.Rows hiding St

def lenF : List D → Option Ent
  | [.str x] => some (.fz (.int x.length))
  | [.list xs] => some (.fz (.int xs.length))
  | [.tuple xs] => some (.fz (.int xs.length))
  | _ => none
def boolsOf : List D → Option (List Bool)
  | [] => some []
  | .bool b :: r => (boolsOf r).map (b :: ·)
  | _ => none
def intsOf : List D → Option (List Int)
  | [] => some []
  | .int b :: r => (intsOf r).map (b :: ·)
  | _ => none
def allF : List D → Option Ent
  | [.list xs] => (boolsOf xs).map fun bs => .fz (.bool (bs.all id))
  | _ => none
def anyF : List D → Option Ent
  | [.list xs] => (boolsOf xs).map fun bs => .fz (.bool (bs.any id))
  | _ => none
def sumF : List D → Option Ent
  | [.list xs] => (intsOf xs).map fun ns => .fz (.int ns.sum)
  | _ => none
def tupleF : List D → Option Ent
  | [.list xs] => some (.fz (.tuple xs))
  | [.tuple xs] => some (.fz (.tuple xs))
  | _ => none
def listF : List D → Option Ent
  | [.list xs] => some (.ow (.list xs))
  | [.tuple xs] => some (.ow (.list xs))
  | _ => none
def intF : List D → Option Ent
  | [.int i] => some (.fz (.int i))
  | [.bool b] => some (.fz (.int (if b then 1 else 0)))
  | _ => none
def absF : List D → Option Ent
  | [.int i] => some (.fz (.int (if i < 0 then -i else i)))
  | _ => none
def max2F : List D → Option Ent
  | [.int i, .int j] => some (.fz (.int (if j > i then j else i)))
  | _ => none
def min2F : List D → Option Ent
  | [.int i, .int j] => some (.fz (.int (if j < i then j else i)))
  | _ => none

section
variable {K : PySem.W.Frag} {W : Addr → Prop} {H : Hp}
theorem bs1 {d : D} {xs : List V} (h : RepBs K W H [d] xs) : ∃ x, xs = [x] ∧ RepB K W H d x := by
  obtain ⟨v, r, rfl, h1, h2⟩ := h
  rw [show r = [] from h2]
  exact ⟨v, rfl, h1⟩
theorem bs2 {d e : D} {xs : List V} (h : RepBs K W H [d, e] xs) : ∃ x y, xs = [x, y] ∧ RepB K W H d x ∧ RepB K W H e y := by
  obtain ⟨v, r, rfl, h1, h2⟩ := h
  obtain ⟨y, rfl, h3⟩ := bs1 h2
  exact ⟨v, y, rfl, h1, h3⟩
theorem bools_rep : ∀ {ds : List D} {vs : List V} {bs : List Bool}, RepL K W H ds vs → boolsOf ds = some bs → vs = bs.map V.bl
  | [], vs, bs, h, e => by cases e; exact h
  | d :: ds, vs, bs, ⟨v, r, e1, h1, h2⟩, e => by
    cases d with
    | bool b =>
      have e' : (boolsOf ds).map (b :: ·) = some bs := e
      cases q : boolsOf ds with
      | none => rw [q] at e'; cases e'
      | some cs =>
        rw [q] at e'
        cases e'
        rw [e1, show v = V.bl b from h1, bools_rep h2 q]
        rfl
    | _ => cases e
theorem ints_rep : ∀ {ds : List D} {vs : List V} {bs : List Int}, RepL K W H ds vs → intsOf ds = some bs → vs = bs.map V.int
  | [], vs, bs, h, e => by cases e; exact h
  | d :: ds, vs, bs, ⟨v, r, e1, h1, h2⟩, e => by
    cases d with
    | int b =>
      have e' : (intsOf ds).map (b :: ·) = some bs := e
      cases q : intsOf ds with
      | none => rw [q] at e'; cases e'
      | some cs =>
        rw [q] at e'
        cases e'
        rw [e1, show v = V.int b from h1, ints_rep h2 q]
        rfl
    | _ => cases e
theorem omap {α β : Type} {k : Option α} {f : α → β} {e : β} (h : k.map f = some e) : ∃ b, k = some b ∧ f b = e := by
  cases k with
  | none => cases h
  | some b => exact ⟨b, rfl, Option.some.inj h⟩
end
section
variable {X : Cx}
theorem c_len : CallR X (.builtin "len") (rC X.K lenF) := by
  rintro pins s σ H xs us Q I r ⟨c, W, σ', env, ds, e, hs, rb, hF, q⟩
  match ds, hF with
  | [.str x], hF =>
    cases hF
    obtain ⟨v, rfl, r3⟩ := bs1 rb
    obtain ⟨rfl, h1, _⟩ := r3.str
    exact call_len_str pins s σ H _ us Q I r ⟨x, rfl, h1, q _ W H Go.refl hs rfl⟩
  | [.list ys], hF =>
    cases hF
    obtain ⟨v, rfl, r3⟩ := bs1 rb
    obtain ⟨a, vs, rfl, h1, h2, hz⟩ := r3.list
    refine call_len_seq pins s σ H _ us Q I r ⟨a, vs, rfl, .inl h1.sq, ?_⟩
    rw [h2.length]
    exact q _ W H Go.refl hs rfl
  | [.tuple ys], hF =>
    cases hF
    obtain ⟨v, rfl, r3⟩ := bs1 rb
    obtain ⟨a, vs, rfl, h1, h2, hz⟩ := r3.tup
    refine call_len_seq pins s σ H _ us Q I r ⟨a, vs, rfl, .inr h1, ?_⟩
    rw [h2.length]
    exact q _ W H Go.refl hs rfl
theorem c_all (hc : X.calm = true) : CallR X (.builtin "all") (rC X.K allF) := by
  rintro pins s σ H xs us Q I r ⟨c, W, σ', env, ds, e, hs, rb, hF, q⟩
  match ds, hF with
  | [.list ys], hF =>
    obtain ⟨bs, h0, rfl⟩ := omap hF
    obtain ⟨v, rfl, r3⟩ := bs1 rb
    obtain ⟨a, vs, rfl, h1, h2, hz⟩ := r3.list
    exact cr_all hc pins s σ H _ us Q I r ⟨a, bs, rfl, bools_rep h2 h0 ▸ h1.sq, q _ W H Go.refl hs rfl⟩
theorem c_any (hc : X.calm = true) : CallR X (.builtin "any") (rC X.K anyF) := by
  rintro pins s σ H xs us Q I r ⟨c, W, σ', env, ds, e, hs, rb, hF, q⟩
  match ds, hF with
  | [.list ys], hF =>
    obtain ⟨bs, h0, rfl⟩ := omap hF
    obtain ⟨v, rfl, r3⟩ := bs1 rb
    obtain ⟨a, vs, rfl, h1, h2, hz⟩ := r3.list
    exact cr_any hc pins s σ H _ us Q I r ⟨a, bs, rfl, bools_rep h2 h0 ▸ h1.sq, q _ W H Go.refl hs rfl⟩
theorem c_sum (hc : X.calm = true) : CallR X (.builtin "sum") (rC X.K sumF) := by
  rintro pins s σ H xs us Q I r ⟨c, W, σ', env, ds, e, hs, rb, hF, q⟩
  match ds, hF with
  | [.list ys], hF =>
    obtain ⟨bs, h0, rfl⟩ := omap hF
    obtain ⟨v, rfl, r3⟩ := bs1 rb
    obtain ⟨a, vs, rfl, h1, h2, hz⟩ := r3.list
    exact cr_sum hc pins s σ H _ us Q I r ⟨a, bs, rfl, ints_rep h2 h0 ▸ h1.sq, q _ W H Go.refl hs rfl⟩
/-- what was looked at may stay, if nobody writes it: a tuple -/
theorem RepB.tupRep {K : PySem.W.Frag} {W : Addr → Prop} {H : Hp} {xs : List D} {v : V} (r : RepB K W H (.tuple xs) v) : Rep K W H (.tuple xs) v := r.elim id fun ⟨_, _, z⟩ => z.elim
theorem call_tupleF : CallR X (.type "tuple") (fun xs H Q => ∃ p ys, xs = [.ref p] ∧ ((SqL X.K H p ys ∧ ∀ l o, Obj.dict o = none → H l = none → Q (.ref l) (upd H l (.frz o (.tup ys)))) ∨ (SqT X.K H p ys ∧ Q (.ref p) H))) := by
  rintro pins s σ H xs us Q I r ⟨p, ys, rfl, h⟩
  obtain ⟨u, rfl, rx⟩ := vals1 r
  cases rx
  rcases h with ⟨hq, q⟩ | ⟨hq, q⟩
  · obtain ⟨its, r', pl, hz⟩ := I.list hq
    have hlen := r'.length
    refine call_tuple_list pl.isList (fun h' kp => ?_) (by simp only [List.size_toArray] <;> omega)
    have I1 : Inv X pins σ H { s with heap := h' } := I.kept (t' := s.toks) kp
    exact laid_tup I1 r' hz q
  · obtain ⟨its, r', pl, hz⟩ := I.tuple hq
    exact call_tuple_same pl ⟨.ref p, H, I, rfl, q⟩
theorem c_tuple : CallR X (.type "tuple") (rC X.K tupleF) := by
  rintro pins s σ H xs us Q I r ⟨c, W, σ', env, ds, e, hs, rb, hF, q⟩
  match ds, hF with
  | [.list ys], hF =>
    cases hF
    obtain ⟨v, rfl, r3⟩ := bs1 rb
    obtain ⟨a, vs, rfl, h1, h2, hz⟩ := r3.list
    exact call_tupleF pins s σ H _ us Q I r ⟨a, vs, rfl, .inl ⟨h1.sq, new_tup hs h2 hz q⟩⟩
  | [.tuple ys], hF =>
    cases hF
    obtain ⟨v, rfl, r3⟩ := bs1 rb
    have r2 := r3.tupRep
    obtain ⟨a, vs, rfl, h1, h2, hz⟩ := r3.tup
    exact call_tupleF pins s σ H _ us Q I r ⟨a, vs, rfl, .inr ⟨h1, q _ W H Go.refl hs r2⟩⟩
theorem c_list : CallR X (.type "list") (rC X.K listF) := by
  rintro pins s σ H xs us Q I r ⟨c, W, σ', env, ds, e, hs, rb, hF, q⟩
  match ds, hF with
  | [.list ys], hF =>
    cases hF
    obtain ⟨v, rfl, r3⟩ := bs1 rb
    obtain ⟨a, vs, rfl, h1, h2, hz⟩ := r3.list
    exact call_list_of pins s σ H _ us Q I r ⟨a, vs, rfl, .inl h1.sq, new_list hs h2 hz q⟩
  | [.tuple ys], hF =>
    cases hF
    obtain ⟨v, rfl, r3⟩ := bs1 rb
    obtain ⟨a, vs, rfl, h1, h2, hz⟩ := r3.tup
    exact call_list_of pins s σ H _ us Q I r ⟨a, vs, rfl, .inr h1, new_list hs h2 hz q⟩
theorem c_int : CallR X (.type "int") (rC X.K intF) := by
  rintro pins s σ H xs us Q I r ⟨c, W, σ', env, ds, e, hs, rb, hF, q⟩
  match ds, hF with
  | [.int i], hF =>
    cases hF
    obtain ⟨v, rfl, r3⟩ := bs1 rb
    rw [r3.int] at r
    exact call_int1 pins s σ H _ us Q I r (.inl ⟨i, rfl, q _ W H Go.refl hs rfl⟩)
  | [.bool b], hF =>
    cases hF
    obtain ⟨v, rfl, r3⟩ := bs1 rb
    rw [r3.bool] at r
    exact call_int1 pins s σ H _ us Q I r (.inr ⟨b, rfl, q _ W H Go.refl hs rfl⟩)
theorem c_abs : CallR X (.builtin "abs") (rC X.K absF) := by
  rintro pins s σ H xs us Q I r ⟨c, W, σ', env, ds, e, hs, rb, hF, q⟩
  match ds, hF with
  | [.int i], hF =>
    cases hF
    obtain ⟨v, rfl, r3⟩ := bs1 rb
    rw [r3.int] at r
    exact call_abs pins s σ H _ us Q I r ⟨i, rfl, q _ W H Go.refl hs rfl⟩
theorem c_max2 (hc : X.calm = true) : CallR X (.builtin "max") (rC X.K max2F) := by
  rintro pins s σ H xs us Q I r ⟨c, W, σ', env, ds, e, hs, rb, hF, q⟩
  match ds, hF with
  | [.int i, .int j], hF =>
    cases hF
    obtain ⟨v, u, rfl, r1, r2⟩ := bs2 rb
    rw [r1.int, r2.int] at r
    exact call_max2 hc pins s σ H _ us Q I r ⟨i, j, rfl, q _ W H Go.refl hs rfl⟩
theorem c_min2 (hc : X.calm = true) : CallR X (.builtin "min") (rC X.K min2F) := by
  rintro pins s σ H xs us Q I r ⟨c, W, σ', env, ds, e, hs, rb, hF, q⟩
  match ds, hF with
  | [.int i, .int j], hF =>
    cases hF
    obtain ⟨v, u, rfl, r1, r2⟩ := bs2 rb
    rw [r1.int, r2.int] at r
    exact call_min2 hc pins s σ H _ us Q I r ⟨i, j, rfl, q _ W H Go.refl hs rfl⟩
end

/-! ### isinstance -/
def tyName : D → String
  | .none => "NoneType" | .bool _ => "bool" | .int _ => "int" | .str _ => "str" | .list _ => "list" | .tuple _ => "tuple" | .dict _ => "dict"
/-- of a built-in class -/
def isD1 (t : String) (d : D) : Bool := tyName d == t || (t == "int" && tyName d == "bool")
section
variable {K : PySem.W.Frag} {W : Addr → Prop} {H : Hp}
theorem sqx_ty {a : Addr} {vs : List V} (h : SqX K H a vs) : TyX K H (.ref a) (.type "list") := by
  rcases h with (h | ⟨o, h⟩) | ⟨its, n, h, _⟩
  · exact .base (.lst h)
  · exact .base (.frz h)
  · exact .kList h rfl
theorem sqt_ty {a : Addr} {vs : List V} (h : SqT K H a vs) : TyX K H (.ref a) (.type "tuple") := by
  rcases h with (h | ⟨o, h⟩) | ⟨o, its, n, h, c, _⟩
  · exact .base (.tup h)
  · exact .fTuple h
  · exact .kTuple h c
theorem RepB.ty {d : D} {v : V} (r : RepB K W H d v) : TyX K H v (.type (tyName d)) := by
  cases d with
  | none => rw [r.none]; exact .base .non
  | bool b => rw [r.bool]; exact .base (.bl b)
  | int i => rw [r.int]; exact .base (.int i)
  | str x => rw [r.str.1]; exact .base (.str x)
  | list xs => obtain ⟨a, vs, rfl, h, _⟩ := r.list; exact sqx_ty h
  | tuple xs => obtain ⟨a, vs, rfl, h, _⟩ := r.tup; exact sqt_ty h
  | dict _ => exact (r.elim (fun z => z.elim) fun ⟨_, _, z⟩ => z.elim)
end
/-- the built-in classes that are asked of -/
def okTy (t : String) : Bool := ["NoneType", "bool", "int", "str", "list", "tuple", "dict"].all fun a => decide (kitB a t = some (a == t || (t == "int" && a == "bool")))
theorem okTy_ok {t : String} (h : okTy t = true) (d : D) : kitB (tyName d) t = some (isD1 t d) := by
  have h1 := List.all_eq_true.mp h (tyName d) (by cases d <;> simp [tyName])
  exact of_decide_eq_true h1
section
variable {B : Bx} {e : Expr} {pos p p2 : Pos} {f : M Pl} {t : Str} {T : String}
def dIsi (T : String) (f : M Pl) : M D := fun env => match f env with
  | .ok p env' => (match p.get env' with
    | some d => .ok (.bool (isD1 T d)) env'
    | none => .bad)
  | .bad => .bad
  | .ex c d env' => .ex c d env'
theorem ev_isi (ha : EvB B e f) (hg : Gl B.X "isinstance") (hm : B.X.mg "isinstance" = none) (hgt : Gl B.X t) (hmt : B.X.mg t = none) (hvt : bootBuiltins t = some (.type T)) (ok : okTy T = true)
    (hn : t ≠ "__name__" := by decide +kernel) (hd : (t == ("__debug__" : Str)) = false := by decide +kernel)
    (h1 : starEach [e, .Name t p2] B.X.env = (false, eval e B.X.env) :: starEach [.Name t p2] B.X.env := by rfl) (hpl : (backTo pos (starEach [.Name t p2] B.X.env)).any (·.1) = false := by rfl) :
    EvF B (.Call (.Name "isinstance" p) [e, .Name t p2] [] pos) (dIsi T f) := by
  obtain ⟨ta, pa, ha⟩ := ha
  have pty : PE B.X (.Name t p2) (tC (.ty T)) := pe_bltn hgt hmt hvt rfl hn hd
  refine ⟨_, pe_callB call_isi hg hm (by decide +kernel) (pa_cons pa (pa_cons pty pa_nil (by rfl)) h1) (by decide +kernel) (by decide +kernel) h1 hpl, fun c W H σ env Q hc s hq => ha c W H σ env _ hc s ?_⟩
  unfold dIsi at hq
  cases q : f env with
  | bad => rw [q] at hq; exact hq
  | ex k d env' => rw [q] at hq; exact hq
  | ok pl env' =>
    rw [q] at hq
    dsimp only at hq
    cases q2 : pl.get env' with
    | none => rw [q2] at hq; exact hq.elim
    | some d =>
      rw [q2] at hq
      intro v W' H' g s' r
      exact ⟨v, .ty T, _, _, _, rfl, .ty T, (s'.look r q2).ty, kit_ty (okTy_ok ok d), hq _ W' H' g s' rfl⟩
end

/-! ### a[i] -/
def atD (xs : List D) (i : Int) : Option D := atI xs i
def ixD : D → D → Option Ent
  | .list xs, .int i => (atI xs i).map .fz
  | .tuple xs, .int i => (atI xs i).map .fz
  | .str x, .int i => (atI x.cps.toList i).map fun n => .fz (.str ⟨#[n]⟩)
  | _, _ => none
theorem RepL.atI {K : PySem.W.Frag} {W : Addr → Prop} {H : Hp} {ds : List D} {vs : List V} {i : Int} {d : D} (h : RepL K W H ds vs) (e : L2.atI ds i = some d) : ∃ v, L2.atI vs i = some v ∧ Rep K W H d v := by
  unfold L2.atI at e ⊢
  rw [h.length]
  cases q : ixN ds.length i with
  | none => rw [q] at e; cases e
  | some j =>
    rw [q] at e
    exact h.get e
theorem atI_mem {α : Type} {xs : List α} {i : Int} {v : α} (h : L2.atI xs i = some v) : v ∈ xs := by
  obtain ⟨j, _, h2, _⟩ := atI_get h
  exact List.mem_of_getElem? h2
theorem strOk_one {x : Str} {n : Nat} (h : PyData.strOk x = true) (m : n ∈ x.cps.toList) : PyData.strOk ⟨#[n]⟩ = true := by
  unfold PyData.strOk at h ⊢
  have h2 := Array.all_eq_true_iff_forall_mem.mp h n (by simpa using m)
  simpa using h2
section
variable {X : Cx}
theorem ix_D : IxR X (rD X.K ixD) := by
  rintro value slice pins s σ H x y v u Q I rx ry ⟨c, W, σ', env, d1, d2, e, hs, r1, r2, hF, q⟩ hh
  cases d1 with
  | list xs =>
    cases d2 with
    | int i =>
      obtain ⟨z, h0, rfl⟩ := omap hF
      obtain ⟨a, vs, rfl, h1, h2, hz⟩ := r1.list
      obtain ⟨w, h3, h4⟩ := h2.atI h0
      exact ix_list value slice pins s σ H _ y v u Q I rx ry ⟨a, vs, i, w, rfl, r2.int, h1.sq, h3, q _ W H Go.refl hs h4⟩ hh
    | _ => cases hF
  | tuple xs =>
    cases d2 with
    | int i =>
      obtain ⟨z, h0, rfl⟩ := omap hF
      obtain ⟨a, vs, rfl, h1, h2, hz⟩ := r1.tup
      obtain ⟨w, h3, h4⟩ := h2.atI h0
      exact ix_tup value slice pins s σ H _ y v u Q I rx ry ⟨a, vs, i, w, rfl, r2.int, h1, h3, q _ W H Go.refl hs h4⟩ hh
    | _ => cases hF
  | str x =>
    cases d2 with
    | int i =>
      obtain ⟨z, h0, rfl⟩ := omap hF
      obtain ⟨rfl, h1, h2⟩ := r1.str
      exact ix_str value slice pins s σ H _ y v u Q I rx ry ⟨x, i, z, rfl, r2.int, h1, h0, q _ W H Go.refl hs ⟨rfl, (by decide : (1 : Nat) ≤ sizeLine), strOk_one h2 (atI_mem h0)⟩⟩ hh
    | _ => cases hF
  | _ => cases hF
end
section
variable {B : Bx} {a b : Expr} {pos : Pos} {f g : M Pl} {F : D → D → Option Ent}
theorem eo_ix (hr : IxR B.X (rD B.X.K F)) (ha : EvB B a f) (hb : EvB B b g) (hs : PlainIx b) : EvO B (.Subscript a b pos) (dBin F f g) := by
  obtain ⟨ta, pa, ha⟩ := ha
  obtain ⟨tb, pb, hb⟩ := hb
  exact ⟨_, pe_ix hr pa pb hs, fun c W H σ env Q hc s hq => two_ok ha hb hc s hq fun p q x y W2 H2 env2 g2 s2 r1 r2 h => rd_of s2 r1 r2 h⟩
end

/-! ### a[i:j] -/
def cutD {α : Type} (xs : List α) (lo hi : Option Int) : List α := (xs.drop (HT.sIx xs.length 0 lo)).take (HT.sIx xs.length xs.length hi - HT.sIx xs.length 0 lo)
def slD : D → Option Int → Option Int → Option Ent
  | .list xs, lo, hi => some (.ow (.list (cutD xs lo hi)))
  | .tuple xs, lo, hi => some (.fz (.tuple (cutD xs lo hi)))
  | .str x, lo, hi => if fits (L2.cutS x lo hi).length && PyData.strOk (L2.cutS x lo hi) then some (.fz (.str (L2.cutS x lo hi))) else none
  | _, _, _ => none
theorem cutD_len {α : Type} (xs : List α) (lo hi : Option Int) : (cutD xs lo hi).length ≤ xs.length := by
  unfold cutD
  rw [List.length_take, List.length_drop]
  omega
theorem RepL.cut {K : PySem.W.Frag} {W : Addr → Prop} {H : Hp} {ds : List D} {vs : List V} (h : RepL K W H ds vs) (lo hi : Option Int) : RepL K W H (cutD ds lo hi) (cutV vs lo hi) := by
  unfold cutD cutV
  rw [h.length]
  exact (h.drop _).take _
/-- F says what a slice gives -/
def rS (K : PySem.W.Frag) (F : D → Option Int → Option Int → Option Ent) : V → Option Int → Option Int → Hp → VK → Prop := fun x lo hi H Q => ∃ c W σ env d e, SR K c W H σ env ∧ RepB K W H d x ∧ F d lo hi = some e ∧
  ∀ v W' H', Go W H W' H' → SR K c W' H' σ env → RepE K c W' H' σ env e v → Q v H'
section
variable {X : Cx}
theorem sl_tupF : SlR X (fun x lo hi H Q => ∃ a xs, x = .ref a ∧ SqT X.K H a xs ∧ (HT.sIx xs.length 0 lo = 0 ∧ HT.sIx xs.length xs.length hi = xs.length → Q (.ref a) H) ∧
    (¬ (HT.sIx xs.length 0 lo = 0 ∧ HT.sIx xs.length xs.length hi = xs.length) → ∀ p o, Obj.dict o = none → H p = none → Q (.ref p) (upd H p (.frz o (.tup (cutV xs lo hi)))))) := by
  rintro pins s σ H x v vl vu lo hi sl Q I rx hs pl pu ⟨a, xs, rfl, hx, q1, q2⟩
  cases rx
  obtain ⟨its, r, ht, hz⟩ := I.tuple hx
  have hlen : its.toArray.size = xs.length := by rw [List.size_toArray]; exact r.length.symm
  refine ⟨"tuple", _, PyProof.Rows.slot_tuple_getitem.lookup, ht.typeIs, ?_⟩
  by_cases hw : HT.sIx xs.length 0 lo = 0 ∧ HT.sIx xs.length xs.length hi = xs.length
  · exact getItem_tuple_whole ht hs pl pu (by rw [hlen]; exact hw) ⟨.ref a, H, I, rfl, q1 hw⟩
  · refine HT.getItem_tuple_cut ht hs pl pu (by rw [hlen]; exact hw) ?_ (by rw [hlen]; exact hz)
    rw [hlen]
    exact laid_tup I ((r.drop (HT.sIx xs.length 0 lo)).take (HT.sIx xs.length xs.length hi - HT.sIx xs.length 0 lo)) (Nat.le_trans (cutV_length xs lo hi) hz) (q2 hw)
theorem sl_D : SlR X (rS X.K slD) := by
  rintro pins s σ H x v vl vu lo hi sl Q I rx hsl pl pu ⟨c, W, σ', env, d, e, hs, r1, hF, q⟩
  cases d with
  | list xs =>
    cases hF
    obtain ⟨a, vs, rfl, h1, h2, hz⟩ := r1.list
    exact sl_list pins s σ H _ v vl vu lo hi sl Q I rx hsl pl pu ⟨a, vs, rfl, h1.sq, new_list hs (h2.cut lo hi) (Nat.le_trans (cutD_len _ _ _) hz) q⟩
  | tuple xs =>
    cases hF
    have r2 := r1.tupRep
    obtain ⟨a, vs, rfl, h1, h2, hz⟩ := r1.tup
    refine sl_tupF pins s σ H _ v vl vu lo hi sl Q I rx hsl pl pu ⟨a, vs, rfl, h1, fun z => ?_, fun _ => new_tup hs (h2.cut lo hi) (Nat.le_trans (cutD_len _ _ _) hz) q⟩
    have e : cutD xs lo hi = xs := by
      unfold cutD
      rw [h2.length] at z
      rw [z.1, z.2, Nat.sub_zero, List.drop_zero, List.take_length]
    refine q _ W H Go.refl hs ?_
    rw [e]
    exact r2
  | str z =>
    obtain ⟨h1, rfl⟩ := ite_some hF
    obtain ⟨h2, h3⟩ := Bool.and_eq_true_iff.mp h1
    obtain ⟨rfl, hz, _⟩ := r1.str
    exact sl_str pins s σ H _ v vl vu lo hi sl Q I rx hsl pl pu ⟨z, rfl, hz, q _ W H Go.refl hs ⟨rfl, fits_ok h2, h3⟩⟩
  | _ => cases hF
end
section
variable {B : Bx} {a : Expr} {lo hi : Option Expr} {pos p2 : Pos} {f : M Pl} {tl th : TO}
/-- a slice's bound -/
def EvI (B : Bx) (e : Option Expr) (f : M (Option Int)) : Prop := ∃ t, PO B.X e t ∧ ∀ c W H σ env Q, B.C c → SR B.X.K c W H σ env →
  (f env).Is (fun i env' => ∀ W' H', Go W H W' H' → SR B.X.K c W' H' σ env' → Q i H') (B.XP c W H σ) → t σ H Q
theorem ei_none : EvI B none (M.pure none) := ⟨_, po_none, fun c W H σ env Q hc s hq => hq W H Go.refl s⟩
def dPart (f : M D) : M (Option Int) := fun env => match f env with
  | .ok (.int i) env' => .ok (some i) env'
  | .ok _ _ => .bad
  | .bad => .bad
  | .ex c d env' => .ex c d env'
theorem ei_some {e : Expr} {f : M D} (h : EvF B e f) : EvI B (some e) (dPart f) := by
  obtain ⟨t, p, h⟩ := h
  refine ⟨_, po_some p, fun c W H σ env Q hc s hq => h c W H σ env _ hc s ?_⟩
  unfold dPart at hq
  cases q : f env with
  | bad => rw [q] at hq; exact hq
  | ex k d env' => rw [q] at hq; exact hq
  | ok d env' =>
    rw [q] at hq
    cases d with
    | int i => exact fun v W' H' g s' r => ⟨i, r, hq W' H' g s'⟩
    | _ => exact hq.elim
def dSl (F : D → Option Int → Option Int → Option Ent) (f : M Pl) (l h : M (Option Int)) : M Ent := M.bind f fun p => M.bind l fun i => M.bind h fun j env => match p.get env with
  | some d => (match F d i j with
    | some e => .ok e env
    | none => .bad)
  | none => .bad
theorem eo_sl {F : D → Option Int → Option Int → Option Ent} {l h : M (Option Int)} (hr : SlR B.X (rS B.X.K F)) (ha : EvB B a f) (hl : EvI B lo l) (hh : EvI B hi h) : EvO B (.Subscript a (.Slice lo hi none p2) pos) (dSl F f l h) := by
  obtain ⟨ta, pa, ha⟩ := ha
  obtain ⟨tl, pl, hl⟩ := hl
  obtain ⟨th, ph, hh⟩ := hh
  refine ⟨_, pe_slice hr pa pl ph, fun c W H σ env Q hc s hq => ?_⟩
  refine ha c W H σ env _ hc s ((Is_bind hq).imp (fun p env1 h1 x W1 H1 g1 s1 r1 => ?_) fun _ _ _ z => z)
  refine hl c W1 H1 σ env1 _ hc s1 ((Is_bind h1).imp (fun i env2 h2 W2 H2 g2 s2 => ?_) fun _ _ _ z => z.go g1)
  refine hh c W2 H2 σ env2 _ hc s2 ((Is_bind h2).imp (fun j env3 h3 W3 H3 g3 s3 => ?_) fun _ _ _ z => z.go (g1.trans g2))
  cases q : p.get env3 with
  | none => rw [q] at h3; exact h3.elim
  | some d =>
    rw [q] at h3
    dsimp only at h3
    cases q2 : F d i j with
    | none => rw [q2] at h3; exact h3.elim
    | some e =>
      rw [q2] at h3
      exact ⟨c, W3, σ, env3, d, e, s3, s3.look (r1.go (g2.trans g3)) q, q2, fun v W' H' g s' r => h3 v W' H' (((g1.trans g2).trans g3).trans g) s' r⟩
end
end DL
end
section
set_option maxRecDepth 100000
set_option maxHeartbeats 1000000
/-! DL7: statements' judgement, defs, calls -/
namespace DL
open PySem PySem.Spec L2
open PyProof.Rows hiding St

inductive Fl where
  | nx | rt (x : Ent) | bk | ct
def FlOk (B : Bx) (c : Cl) (W : Addr → Prop) (H : Hp) (E : Ends) (fl : Fl) (env : En) : Prop := match fl with
  | .nx => ∀ σ' W' H', Go W H W' H' → SR B.X.K c W' H' σ' env → E.nx σ' H'
  | .rt x => ∀ v σ' W' H', Go W H W' H' → SR B.X.K c W' H' σ' env → RepE B.X.K c W' H' σ' env x v → E.rt v H'
  | .bk => ∀ σ' W' H', Go W H W' H' → SR B.X.K c W' H' σ' env → E.bk σ' H'
  | .ct => ∀ σ' W' H', Go W H W' H' → SR B.X.K c W' H' σ' env → E.ct σ' H'
def Bx.XS (B : Bx) (c : Cl) (W : Addr → Prop) (H : Hp) : Str → D → En → Prop := fun k d env => ∀ cls dx σ' W' H', Go W H W' H' → SR B.X.K c W' H' σ' env → xrep B.X.K W' H' k d cls dx → B.Wx cls dx σ' H'
def EvS (B : Bx) (st : Stmt) (g : M Fl) : Prop := ∃ t, PS B.X st t ∧ ∀ c W H σ env E, B.C c → SR B.X.K c W H σ env → (g env).Is (fun fl env' => FlOk B c W H E fl env') (B.XS c W H) → t E σ H
def EvL (B : Bx) (sts : List Stmt) (g : M Fl) : Prop := ∃ t, PSs B.X sts t ∧ ∀ c W H σ env E, B.C c → SR B.X.K c W H σ env → (g env).Is (fun fl env' => FlOk B c W H E fl env') (B.XS c W H) → t E σ H
theorem FlOk.go {B : Bx} {c : Cl} {W W' : Addr → Prop} {H H' : Hp} {E : Ends} {fl : Fl} {env : En} (g : Go W H W' H') (h : FlOk B c W H E fl env) : FlOk B c W' H' E fl env := by
  cases fl with
  | nx => exact fun σ' W2 H2 g2 s => h σ' W2 H2 (g.trans g2) s
  | rt x => exact fun v σ' W2 H2 g2 s r => h v σ' W2 H2 (g.trans g2) s r
  | bk => exact fun σ' W2 H2 g2 s => h σ' W2 H2 (g.trans g2) s
  | ct => exact fun σ' W2 H2 g2 s => h σ' W2 H2 (g.trans g2) s
theorem Bx.XS.go {B : Bx} {c : Cl} {W W' : Addr → Prop} {H H' : Hp} (g : Go W H W' H') {k : Str} {d : D} {env : En} (h : B.XS c W H k d env) : B.XS c W' H' k d env :=
  fun cls dx σ' W2 H2 g2 s r => h cls dx σ' W2 H2 (g.trans g2) s r
theorem Bx.XS.xp {B : Bx} {c : Cl} {W : Addr → Prop} {H : Hp} {σ : St} {k : Str} {d : D} {env : En} (h : B.XS c W H k d env) : B.XP c W H σ k d env :=
  fun cls dx W2 H2 g2 s r => h cls dx σ W2 H2 g2 s r

/-! ### what a def promises, over data -/
structure ArgsOk (K : PySem.W.Frag) (W : Addr → Prop) (H : Hp) (io : Option Nat) (ds : List D) (vs : List V) (ia : Option Addr) : Prop where
  len : vs.length = ds.length
  fz : ∀ (i : Nat) d v, io ≠ some i → ds[i]? = some d → vs[i]? = some v → Rep K W H d v
  io_ : ∀ i, io = some i → ∃ a d, ia = some a ∧ vs[i]? = some (.ref a) ∧ ds[i]? = some d ∧ W a ∧ Own K W H a d
  no : io = none → ia = none
/-- behind a call that may write the object at ia alone -/
structure Bk (W : Addr → Prop) (H : Hp) (W' : Addr → Prop) (H' : Hp) (ia : Option Addr) : Prop where
  keep : ∀ b o, H b = some o → ia ≠ some b → H' b = some o
  new : ∀ b, W' b → W b ∨ H b = none
  sub : ∀ b, W b → W' b
  tr : ∀ b, W' b → ∃ o, H' b = some o
def OutOk (K : PySem.W.Frag) (W' : Addr → Prop) (H' : Hp) (ia : Option Addr) (out : D) : Prop := ∀ a, ia = some a → Own K W' H' a out
def RetOk (K : PySem.W.Frag) (W W' : Addr → Prop) (H' : Hp) (x : Ent) (v : V) : Prop := match x with
  | .fz d => Rep K W' H' d v
  | .ow d => ∃ a, v = .ref a ∧ W' a ∧ ¬ W a ∧ Own K W' H' a d
  | _ => False
/-- a def over data: the parameters' data, then the answer and what has become of the lent object -/
abbrev DFn := List D → R D Ent
def spD (K : PySem.W.Frag) (io : Option Nat) (n : Nat) (fn : DFn) : Sp := fun vs H Q E => ∃ W ds ia, (∀ a, W a → ∃ o, H a = some o) ∧ ds.length = n ∧ ArgsOk K W H io ds vs ia ∧
  (fn ds).Is (fun x out => ∀ v W' H', Bk W H W' H' ia → OutOk K W' H' ia out → RetOk K W W' H' x v → Q v H') (fun k d out => ∀ cls dx W' H', Bk W H W' H' ia → OutOk K W' H' ia out → xrep K W' H' k d cls dx → E cls dx H')
/-- as FnOk, of a caller whose guards are known to be none -/
structure FnG (P : Program) (w : World) (K : PySem.W.Frag) (mg : Str → Option Value) (base : Heap) (k : Nat) (f : Addr) (fd : FuncData) (ps : List Str) (sp : Sp) : Prop where
  len : ∀ vs H Q E, sp vs H Q E → vs.length = ps.length
  run : ∀ (A : Around) (outer : List Env) (s : Shared) (H : Hp) (args : Args) (us : List Value) (vs : List V) (Q : VK) (E : XK), Room k A → A.guards = some [] → Env0 P w K mg base A outer s H → BindsTo s fd args (ps.zip us) → Vals vs us → sp vs H Q E →
    codeAny (model P w) A (.call (.ref f) args) (CR (L2.CX P w) outer P w H s Q E) s
theorem FnG.mono {P : Program} {w : World} {K : PySem.W.Frag} {mg : Str → Option Value} {base : Heap} {j k : Nat} {f : Addr} {fd : FuncData} {ps : List Str} {sp : Sp} (F : FnG P w K mg base j f fd ps sp) (h : j ≤ k) : FnG P w K mg base k f fd ps sp :=
  ⟨F.len, fun A outer s H args us vs Q E hr => F.run A outer s H args us vs Q E (hr.mono h)⟩

section
variable {K : PySem.W.Frag} {c : Cl} {W W' : Addr → Prop} {H H' : Hp} {σ : St} {env : En}
def putOut (slot : Option Nat) (out : D) (env : En) : En := match slot with
  | none => env
  | some j => match env[j]? with
    | some (.ow _) => env.set j (.ow out)
    | some (.io _) => env.set j (.io out)
    | _ => env
theorem Bk.go {ia : Option Addr} (b : Bk W H W' H' ia) (h : ∀ a, ia = some a → W a) : Go W H W' H' := ⟨fun x o hx n => b.keep x o hx fun z => n (h x z), b.new⟩
theorem putOut_mut {slot : Option Nat} {out : D} {j : Nat} (h : IsMut (putOut slot out env) j) : IsMut env j := by
  unfold putOut at h
  cases slot with
  | none => exact h
  | some i =>
    dsimp only at h
    have set : ∀ (x : Ent), IsMut env i → IsMut (env.set i x) j → IsMut env j := fun x mi ⟨d, m⟩ => by
      by_cases e : i = j
      · rw [← e]; exact mi
      · rw [List.getElem?_set_ne e] at m; exact ⟨d, m⟩
    cases q : env[i]? with
    | none => rw [q] at h; exact h
    | some y =>
      rw [q] at h
      cases y with
      | ow d => exact set _ ⟨d, .inl q⟩ h
      | io d => exact set _ ⟨d, .inr q⟩ h
      | fz _ => exact h
      | no => exact h
      | xc _ _ => exact h
/-- the slot whose object is lent -/
def SlotOk (σ : St) (env : En) : Option Nat → Option Addr → Prop
  | none, none => True
  | some j, some a => IsMut env j ∧ At σ j (.ref a)
  | _, _ => False
/-- the state behind a call -/
theorem SR.back (s : SR K c W H σ env) {ia : Option Addr} {slot : Option Nat} {out : D} (b : Bk W H W' H' ia) (o : OutOk K W' H' ia out)
    (hs : SlotOk σ env slot ia) : Go W H W' H' ∧ SR K c W' H' σ (putOut slot out env) := by
  have hw : ∀ a, ia = some a → ∃ j, slot = some j ∧ IsMut env j ∧ At σ j (.ref a) := fun a e => by
    subst e
    cases slot with
    | none => exact hs.elim
    | some j => exact ⟨j, rfl, hs⟩
  have hW : ∀ a, ia = some a → W a ∧ (¬ c.Wc a ∨ c.io = some a) := fun a e => by
    obtain ⟨j, _, ⟨d, m⟩, h⟩ := hw a e
    rcases m with m | m
    · obtain ⟨a', h1, h2, h3, _⟩ := s.ow j d m
      have e : some (some (V.ref a')) = some (some (V.ref a)) := h1.symm.trans h
      cases e
      exact ⟨h2, .inl h3⟩
    · obtain ⟨a', h1, h2, h3, _⟩ := s.io j d m
      have e : some (some (V.ref a')) = some (some (V.ref a)) := h1.symm.trans h
      cases e
      exact ⟨h2, .inr h3⟩
  have g : Go W H W' H' := b.go fun a e => (hW a e).1
  refine ⟨g, ?_⟩
  -- what stands in the slots now
  have old : ∀ (i : Nat) x, (putOut slot out env)[i]? = some x → env[i]? = some x ∧ slot ≠ some i ∨ (∃ d, slot = some i ∧ ((env[i]? = some (.ow d) ∧ x = .ow out) ∨ (env[i]? = some (.io d) ∧ x = .io out))) ∨ (env[i]? = some x ∧ slot = some i ∧ ¬ IsMut env i) := fun i x h => by
    unfold putOut at h
    cases slot with
    | none => exact .inl ⟨h, nofun⟩
    | some j =>
      by_cases e : j = i
      · subst e
        dsimp only at h
        cases q : env[j]? with
        | none => rw [q] at h; dsimp only at h; rw [q] at h; cases h
        | some y =>
          have hj : j < env.length := (List.getElem?_eq_some_iff.mp q).1
          rw [q] at h
          cases y with
          | ow d =>
            dsimp only at h
            rw [List.getElem?_set_self hj] at h
            cases h
            exact .inr (.inl ⟨d, rfl, .inl ⟨rfl, rfl⟩⟩)
          | io d =>
            dsimp only at h
            rw [List.getElem?_set_self hj] at h
            cases h
            exact .inr (.inl ⟨d, rfl, .inr ⟨rfl, rfl⟩⟩)
          | fz d =>
            dsimp only at h
            rw [q] at h
            exact .inr (.inr ⟨h, rfl, fun ⟨_, z⟩ => by rw [q] at z; rcases z with z | z <;> cases z⟩)
          | no =>
            dsimp only at h
            rw [q] at h
            exact .inr (.inr ⟨h, rfl, fun ⟨_, z⟩ => by rw [q] at z; rcases z with z | z <;> cases z⟩)
          | xc _ _ =>
            dsimp only at h
            rw [q] at h
            exact .inr (.inr ⟨h, rfl, fun ⟨_, z⟩ => by rw [q] at z; rcases z with z | z <;> cases z⟩)
      · refine .inl ⟨?_, fun z => e (Option.some.inj z)⟩
        dsimp only at h
        cases q : env[j]? with
        | none => rw [q] at h; exact h
        | some y =>
          rw [q] at h
          cases y <;> dsimp only at h <;> first | exact h | (rw [List.getElem?_set_ne e] at h; exact h)
  have plain : ∀ (i : Nat) x, (putOut slot out env)[i]? = some x → (∀ d, x ≠ .ow d) → (∀ d, x ≠ .io d) → env[i]? = some x := fun i x h n1 n2 => by
    rcases old i x h with ⟨h, _⟩ | ⟨d, _, ⟨_, h⟩ | ⟨_, h⟩⟩ | ⟨h, _⟩
    · exact h
    · exact absurd h (n1 _)
    · exact absurd h (n2 _)
    · exact h
  have mutb : ∀ i, IsMut (putOut slot out env) i → IsMut env i := fun i m => putOut_mut m
  have len : (putOut slot out env).length = env.length := by
    unfold putOut
    cases slot with
    | none => rfl
    | some j =>
      dsimp only
      cases q : env[j]? with
      | none => rfl
      | some y => cases y <;> simp
  -- an object that was not lent stands as it was
  have stay : ∀ i a d, IsMut env i → At σ i (.ref a) → slot ≠ some i → Own K W H a d → Own K W' H' a d := fun i a d m h n ho => by
    refine ho.go g ?_
    obtain ⟨ob, hob⟩ := ho.there
    rw [hob]
    refine b.keep a ob hob fun z => ?_
    obtain ⟨j, e1, m2, h2⟩ := hw a z
    exact n (by rw [e1, s.sep i j a m m2 h h2])
  refine ⟨len.trans s.len, fun i d h => ?_, fun i d h => ?_, fun i d h => ?_, fun i k d h => ?_, fun i j a m1 m2 => s.sep i j a (mutb i m1) (mutb j m2), b.tr, fun a h => b.sub a (s.sub a h), s.ioW, fun x o h n => ?_, fun x h => ?_⟩
  · obtain ⟨v, h1, h2⟩ := s.fz i d (plain i _ h nofun nofun)
    exact ⟨v, h1, h2.go g⟩
  · rcases old i _ h with ⟨h0, n⟩ | ⟨d', e1, ⟨h0, e2⟩ | ⟨_, z⟩⟩ | ⟨h0, _, n⟩
    · obtain ⟨a, h1, h2, h3, h4⟩ := s.ow i d h0
      exact ⟨a, h1, b.sub a h2, h3, stay i a d ⟨d, .inl h0⟩ h1 n h4⟩
    · cases e2
      obtain ⟨a, h1, h2, h3, h4⟩ := s.ow i d' h0
      refine ⟨a, h1, b.sub a h2, h3, o a ?_⟩
      subst e1
      cases ia with
      | none => exact hs.elim
      | some a2 =>
        have e : some (some (V.ref a)) = some (some (V.ref a2)) := h1.symm.trans hs.2
        cases e
        rfl
    · cases z
    · exact (n ⟨d, .inl h0⟩).elim
  · rcases old i _ h with ⟨h0, n⟩ | ⟨d', e1, ⟨_, z⟩ | ⟨h0, e2⟩⟩ | ⟨h0, _, n⟩
    · obtain ⟨a, h1, h2, h3, h4⟩ := s.io i d h0
      exact ⟨a, h1, b.sub a h2, h3, stay i a d ⟨d, .inr h0⟩ h1 n h4⟩
    · cases z
    · cases e2
      obtain ⟨a, h1, h2, h3, h4⟩ := s.io i d' h0
      refine ⟨a, h1, b.sub a h2, h3, o a ?_⟩
      subst e1
      cases ia with
      | none => exact hs.elim
      | some a2 =>
        have e : some (some (V.ref a)) = some (some (V.ref a2)) := h1.symm.trans hs.2
        cases e
        rfl
    · exact (n ⟨d, .inr h0⟩).elim
  · obtain ⟨h1, h2, x, v, h3, h4, h5, h6⟩ := s.xc i k d (plain i _ h nofun nofun)
    exact ⟨h1, h2, x, v, h3, g.keep _ _ h4 h5, fun w => (g.new x w).elim h5 fun z => (nomatch h4.symm.trans z), h6.go g⟩
  · have h1 := s.keep x o h n
    refine b.keep x o h1 fun z => ?_
    rcases (hW x z).2 with q | q
    · rcases s.new x (hW x z).1 with q2 | q2
      · exact q q2
      · rw [q2] at h
        cases h
    · exact n q
  · rcases b.new x h with h | h
    · exact s.new x h
    · cases q : c.H0 x with
      | none => exact .inr rfl
      | some o =>
        by_cases n : c.io = some x
        · exact .inl (s.ioW x n)
        · have h1 := s.keep x o q n
          rw [h] at h1
          cases h1
end

/-! ### a call -/
def callArgs (io : Option Nat) (env : En) : Nat → List Pl → Option (List D)
  | _, [] => some []
  | i, .v d :: ps => if io = some i then none else (callArgs io env (i + 1) ps).map (d :: ·)
  | i, .s j :: ps => if io = some i then (match env[j]? with
      | some (.ow d) => (callArgs io env (i + 1) ps).map (d :: ·)
      | some (.io d) => (callArgs io env (i + 1) ps).map (d :: ·)
      | _ => none) else none
def ioSlot (io : Option Nat) (ps : List Pl) : Option Nat := match io with
  | none => none
  | some i => match ps[i]? with
    | some (.s j) => some j
    | _ => none
def dCall (io : Option Nat) (n : Nat) (fn : DFn) (f : M (List Pl)) : M Ent := fun env => match f env with
  | .ok ps env1 => (match callArgs io env1 0 ps with
    | some ds => if ds.length = n then (match fn ds with
      | .ok x out => .ok x (putOut (ioSlot io ps) out env1)
      | .ex k d out => .ex k d (putOut (ioSlot io ps) out env1)
      | .bad => .bad) else .bad
    | none => .bad)
  | .bad => .bad
  | .ex c d env' => .ex c d env'
section
variable {K : PySem.W.Frag} {c : Cl} {W W' : Addr → Prop} {H H' : Hp} {σ : St} {env : En}
theorem callArgs_len {io : Option Nat} : ∀ {ps : List Pl} {i : Nat} {ds : List D}, callArgs io env i ps = some ds → ds.length = ps.length
  | [], _, ds, h => by cases h; rfl
  | .v d :: ps, i, ds, h => by
    unfold callArgs at h
    split at h
    · cases h
    · obtain ⟨r, h1, rfl⟩ := omap h
      rw [List.length_cons, List.length_cons, callArgs_len h1]
  | .s j :: ps, i, ds, h => by
    unfold callArgs at h
    split at h
    · split at h
      · obtain ⟨r, h1, rfl⟩ := omap h
        rw [List.length_cons, List.length_cons, callArgs_len h1]
      · obtain ⟨r, h1, rfl⟩ := omap h
        rw [List.length_cons, List.length_cons, callArgs_len h1]
      · cases h
    · cases h
theorem callArgs_at {io : Option Nat} : ∀ {ps : List Pl} {i k : Nat} {ds : List D} {d : D}, callArgs io env i ps = some ds → ds[k]? = some d →
    (io ≠ some (i + k) ∧ ps[k]? = some (.v d)) ∨ (io = some (i + k) ∧ ∃ j, ps[k]? = some (.s j) ∧ (env[j]? = some (.ow d) ∨ env[j]? = some (.io d)))
  | [], _, _, ds, _, h, e => by cases h; simp at e
  | .v d' :: ps, i, k, ds, d, h, e => by
    unfold callArgs at h
    split at h
    · cases h
    · rename_i n
      obtain ⟨r, h1, rfl⟩ := omap h
      cases k with
      | zero => simp at e; subst e; exact .inl ⟨n, rfl⟩
      | succ k =>
        rcases callArgs_at (k := k) h1 (by simpa using e) with ⟨a, b⟩ | ⟨a, j, b, q⟩
        · exact .inl ⟨by rw [show i + (k + 1) = i + 1 + k by omega]; exact a, by simpa using b⟩
        · exact .inr ⟨by rw [show i + (k + 1) = i + 1 + k by omega]; exact a, j, by simpa using b, q⟩
  | .s j :: ps, i, k, ds, d, h, e => by
    unfold callArgs at h
    split at h
    · rename_i n
      have go : ∀ {d0 : D} {r : List D}, callArgs io env (i + 1) ps = some r → (env[j]? = some (.ow d0) ∨ env[j]? = some (.io d0)) → (d0 :: r)[k]? = some d →
          (io ≠ some (i + k) ∧ (Pl.s j :: ps)[k]? = some (.v d)) ∨ (io = some (i + k) ∧ ∃ j', (Pl.s j :: ps)[k]? = some (.s j') ∧ (env[j']? = some (.ow d) ∨ env[j']? = some (.io d))) := fun {d0 r} h1 q e => by
        cases k with
        | zero => simp at e; subst e; exact .inr ⟨n, j, rfl, q⟩
        | succ k =>
          rcases callArgs_at (k := k) h1 (by simpa using e) with ⟨a, b⟩ | ⟨a, j', b, q⟩
          · exact .inl ⟨by rw [show i + (k + 1) = i + 1 + k by omega]; exact a, by simpa using b⟩
          · exact .inr ⟨by rw [show i + (k + 1) = i + 1 + k by omega]; exact a, j', by simpa using b, q⟩
      split at h
      · rename_i q
        obtain ⟨r, h1, rfl⟩ := omap h
        exact go h1 (.inl q) e
      · rename_i q
        obtain ⟨r, h1, rfl⟩ := omap h
        exact go h1 (.inr q) e
      · cases h
    · cases h
theorem RepPs.length : ∀ {ps : List Pl} {vs : List V}, RepPs K W H σ ps vs → vs.length = ps.length
  | [], _, h => by rw [show _ = [] from h]; rfl
  | p :: ps, vs, ⟨v, r, e, h1, h2⟩ => by rw [e, List.length_cons, List.length_cons, RepPs.length h2]
theorem RepPs.get : ∀ {ps : List Pl} {vs : List V} {i : Nat} {p : Pl}, RepPs K W H σ ps vs → ps[i]? = some p → ∃ v, vs[i]? = some v ∧ RepP K W H σ p v
  | [], _, _, _, _, e => by simp at e
  | p :: ps, vs, 0, _, ⟨v, r, e1, h1, h2⟩, e => by simp at e; subst e; exact ⟨v, by rw [e1]; rfl, h1⟩
  | p :: ps, vs, i + 1, _, ⟨v, r, e1, h1, h2⟩, e => by
    obtain ⟨u, q1, q2⟩ := RepPs.get (i := i) h2 (by simpa using e)
    exact ⟨u, by rw [e1]; simpa using q1, q2⟩
/-- the arguments as the callee takes them -/
theorem args_ok (s : SR K c W H σ env) {io : Option Nat} {ps : List Pl} {vs : List V} {ds : List D} (r : RepPs K W H σ ps vs) (h : callArgs io env 0 ps = some ds) (hi : ∀ i, io = some i → i < ds.length) :
    ∃ ia, ArgsOk K W H io ds vs ia ∧ SlotOk σ env (ioSlot io ps) ia := by
  have fz : ∀ (i : Nat) d v, io ≠ some i → ds[i]? = some d → vs[i]? = some v → Rep K W H d v := fun i d v n e1 e2 => by
    rcases callArgs_at h e1 with ⟨_, b⟩ | ⟨a, _⟩
    · obtain ⟨u, q1, q2⟩ := r.get b
      rw [e2] at q1
      cases q1
      exact q2
    · rw [Nat.zero_add] at a
      exact absurd a n
  have len : vs.length = ds.length := by rw [r.length, callArgs_len h]
  cases io with
  | none => exact ⟨none, ⟨len, fz, nofun, fun _ => rfl⟩, trivial⟩
  | some i =>
    have hlt := hi i rfl
    obtain ⟨d, hd⟩ : ∃ d, ds[i]? = some d := ⟨_, List.getElem?_eq_getElem hlt⟩
    rcases callArgs_at h hd with ⟨n, _⟩ | ⟨_, j, b, q⟩
    · rw [Nat.zero_add] at n
      exact absurd rfl n
    · obtain ⟨u, q1, q2⟩ := r.get b
      have q2 : At σ j u := q2
      obtain ⟨a, rfl, w, ho⟩ : ∃ a, u = .ref a ∧ W a ∧ Own K W H a d := by
        rcases q with q | q
        · obtain ⟨a, h1, h2, h3, h4⟩ := s.ow j d q
          have e : some (some (V.ref a)) = some (some u) := h1.symm.trans q2
          cases e
          exact ⟨a, rfl, h2, h4⟩
        · obtain ⟨a, h1, h2, h3, h4⟩ := s.io j d q
          have e : some (some (V.ref a)) = some (some u) := h1.symm.trans q2
          cases e
          exact ⟨a, rfl, h2, h4⟩
      refine ⟨some a, ⟨len, fz, fun i' e => ?_, nofun⟩, ?_⟩
      · cases e
        exact ⟨a, d, rfl, q1, hd, w, ho⟩
      · have e : ioSlot (some i) ps = some j := by
          unfold ioSlot
          dsimp only
          rw [b]
        rw [e]
        exact ⟨⟨d, q⟩, q2⟩
end
section
variable {B : Bx} {k n : Nat} {f : Addr} {fd : FuncData} {ps ks : List Str} {io : Option Nat} {fn : DFn} {x : Str} {p pos : Pos} {e : Expr} {es : List Expr} {fa : M (List Pl)}
/-- the callee runs -/
theorem run_g {pins : List (Addr × Obj)} {σ : St} {H : Hp} {s : Shared} {Q : VK} {us : List Value} {vs : List V} {sp : Sp} {args : Args} (F : FnG B.X.prog B.X.w B.X.K B.X.mg B.X.base k f fd ps sp) (hr : Room k B.X.A) (hg : B.X.A.guards = some [])
    (hb : BindsTo s fd args (ps.zip us)) (tk : Takes B.X B.Wx) (I : Inv B.X pins σ H s) (r : Vals vs us) (h : sp vs H Q fun cls d H' => B.Wx cls d σ H') :
    codeAny (model B.X.prog B.X.w) B.X.A (.call (.ref f) args) (fun r s' => match r with
      | .ok (.ret v) => EP B.X pins σ Q v s'
      | .ok _ => False
      | .error e => B.X.xe e s') s := by
  refine codeAny_mono (F.run B.X.A B.X.stack s H args us vs Q _ hr hg I.env0 hb r h) fun r s' hq => ?_
  cases r with
  | error e => exact tk e s' (XE.of_call I (fun _ _ _ z => z) hq)
  | ok fl =>
    cases fl with
    | ret u => exact I.after hq
    | next => exact hq
    | brk => exact hq
    | cont => exact hq
/-- from the caller's state to the callee's promise -/
theorem call_sp {c : Cl} {W : Addr → Prop} {H : Hp} {σ : St} {env : En} {Q : VK} {pl : List Pl} {vs : List V} {ds : List D} (s : SR B.X.K c W H σ env) (r : RepPs B.X.K W H σ pl vs) (h : callArgs io env 0 pl = some ds) (hn : ds.length = n) (hi : ∀ i, io = some i → i < n)
    (hq : R.Is (match fn ds with
      | .ok x out => (.ok x (putOut (ioSlot io pl) out env) : R En Ent)
      | .ex k d out => .ex k d (putOut (ioSlot io pl) out env)
      | .bad => .bad) (fun x env' => ∀ v W' H', Go W H W' H' → SR B.X.K c W' H' σ env' → RepE B.X.K c W' H' σ env' x v → Q v H') (B.XP c W H σ)) :
    spD B.X.K io n fn vs H Q fun cls d H' => B.Wx cls d σ H' := by
  obtain ⟨ia, ao, hs⟩ := args_ok s r h fun i e => by rw [hn]; exact hi i e
  refine ⟨W, ds, ia, s.tr, hn, ao, ?_⟩
  cases q : fn ds with
  | bad => rw [q] at hq; exact hq
  | ex k d out =>
    rw [q] at hq
    intro cls dx W' H' b o xr
    obtain ⟨g, s'⟩ := s.back b o hs
    exact hq cls dx W' H' g s' xr
  | ok x out =>
    rw [q] at hq
    intro v W' H' b o rt
    obtain ⟨g, s'⟩ := s.back b o hs
    refine hq v W' H' g s' ?_
    cases x with
    | fz d => exact rt
    | ow d =>
      obtain ⟨a, rfl, h1, h2, h3⟩ := rt
      refine ⟨a, rfl, h1, fun z => h2 (s.sub a z), h3, fun j m z => ?_⟩
      -- the new object is none of the slots'
      have : W a := by
        have mo : IsMut env j := putOut_mut m
        obtain ⟨d2, mo⟩ := mo
        rcases mo with mo | mo
        · obtain ⟨a', q1, q2, _⟩ := s.ow j d2 mo
          have e : some (some (V.ref a')) = some (some (V.ref a)) := q1.symm.trans z
          cases e
          exact q2
        · obtain ⟨a', q1, q2, _⟩ := s.io j d2 mo
          have e : some (some (V.ref a')) = some (some (V.ref a)) := q1.symm.trans z
          cases e
          exact q2
      exact h2 this
    | no => exact rt
    | io _ => exact rt
    | xc _ _ => exact rt
def tCallG (sp : Sp) (Wx : WX) (t : TA) : TE := fun σ H Q => t σ H fun vs H1 => sp vs H1 Q fun cls d H' => Wx cls d σ H'
theorem pe_g {sp : Sp} {t : TA} (F : FnG B.X.prog B.X.w B.X.K B.X.mg B.X.base k f fd ps sp) (hr : Room k B.X.A) (hgd : B.X.A.guards = some []) (hg : Gl B.X x) (hm : B.X.mg x = some (.ref f)) (hk : PySem.W.keepIn B.X.K (.ref f) = true) (hb : Binds B.X.K fd ps []) (tk : Takes B.X B.Wx)
    (ha : PA B.X (e :: es) t) (hdb : (x == ("__debug__" : Str)) = false) (he : starEach (e :: es) B.X.env = (false, eval e B.X.env) :: starEach es B.X.env) (hpl : (backTo pos (starEach es B.X.env)).any (·.1) = false) :
    PE B.X (.Call (.Name x p) (e :: es) [] pos) (tCallG sp B.Wx t) := by
  refine ⟨fun pins s σ H Q I h => wpAny_Call_Name_kw (ld_glob I hg hm ?_ hdb)⟩
  refine PySem.W.callWith_K (h₀ := B.X.base) I.ok.mod.kin hk (thn (ha.run pos pins s σ H _ I h) fun us s1 ⟨vs, H1, I1, r, q⟩ => ⟨I1.kIn, ?_⟩) he hpl
  have hb' := hb s1 us I1.kIn (by rw [List.append_nil, ← r.length]; exact F.len _ _ _ _ q)
  rw [List.append_nil] at hb'
  refine wpAny_call (codeAny_mono (run_g F hr hgd hb' tk I1 r q) fun r s' hq => ?_)
  cases r with
  | error e => exact hq
  | ok fl =>
    cases fl with
    | ret u => exact hq
    | next => exact hq
    | brk => exact hq
    | cont => exact hq
theorem eo_call (F : FnG B.X.prog B.X.w B.X.K B.X.mg B.X.base k f fd ps (spD B.X.K io n fn)) (hr : Room k B.X.A) (hgd : B.X.A.guards = some []) (hg : Gl B.X x) (hm : B.X.mg x = some (.ref f)) (hk : PySem.W.keepIn B.X.K (.ref f) = true) (hb : Binds B.X.K fd ps []) (tk : Takes B.X B.Wx)
    (ha : EvP B (e :: es) fa) (hi : ∀ i, io = some i → i < n) (hdb : (x == ("__debug__" : Str)) = false := by decide +kernel) (he : starEach (e :: es) B.X.env = (false, eval e B.X.env) :: starEach es B.X.env := by rfl) (hpl : (backTo pos (starEach es B.X.env)).any (·.1) = false := by rfl) :
    EvO B (.Call (.Name x p) (e :: es) [] pos) (dCall io n fn fa) := by
  obtain ⟨t, pt, h⟩ := ha
  refine ⟨_, pe_g F hr hgd hg hm hk hb tk pt hdb he hpl, fun c W H σ env Q hc s hq => h c W H σ env _ hc s ?_⟩
  unfold dCall at hq
  cases q : fa env with
  | bad => rw [q] at hq; exact hq
  | ex k d env' => rw [q] at hq; exact hq
  | ok pl env1 =>
    rw [q] at hq
    dsimp only at hq
    cases q2 : callArgs io env1 0 pl with
    | none => rw [q2] at hq; exact hq.elim
    | some ds =>
      rw [q2] at hq
      dsimp only at hq
      by_cases q3 : ds.length = n
      · rw [if_pos q3] at hq
        intro vs W' H' g s' r
        refine call_sp s' r q2 q3 hi (hq.imp (fun x env' h2 v W2 H2 g2 s2 r2 => h2 v W2 H2 (g.trans g2) s2 r2) fun _ _ _ z => z.go g)
      · rw [if_neg q3] at hq
        exact hq.elim
end

/-! ### a def's body -/
def initE (io : Option Nat) : Nat → List D → En
  | _, [] => []
  | i, d :: ds => (if io = some i then Ent.io d else Ent.fz d) :: initE io (i + 1) ds
def outOf (io : Option Nat) (env : En) : Option D := match io with
  | none => some .none
  | some i => match env[i]? with
    | some (.io d) => some d
    | _ => none
def runFn (io : Option Nat) (m : Nat) (body : M Fl) : DFn := fun ds => match body (initE io 0 ds ++ List.replicate m .no) with
  | .ok .nx env => (match outOf io env with
    | some o => .ok (.fz .none) o
    | none => .bad)
  | .ok (.rt x) env => (match outOf io env with
    | some o => .ok x o
    | none => .bad)
  | .ok _ _ => .bad
  | .bad => .bad
  | .ex k d env => (match outOf io env with
    | some o => .ex k d o
    | none => .bad)
theorem initE_len (io : Option Nat) : ∀ (ds : List D) (i : Nat), (initE io i ds).length = ds.length
  | [], _ => rfl
  | d :: ds, i => by rw [initE, List.length_cons, List.length_cons, initE_len io ds]
theorem initE_at (io : Option Nat) : ∀ (ds : List D) (i k : Nat) x, (initE io i ds)[k]? = some x → ∃ d, ds[k]? = some d ∧ x = if io = some (i + k) then Ent.io d else Ent.fz d
  | [], _, _, _, h => by simp [initE] at h
  | d :: ds, i, 0, x, h => by
    rw [initE] at h
    simp at h
    exact ⟨d, rfl, h.symm⟩
  | d :: ds, i, k + 1, x, h => by
    rw [initE] at h
    obtain ⟨d', h1, h2⟩ := initE_at io ds (i + 1) k x (by simpa using h)
    exact ⟨d', by simpa using h1, by rw [show i + (k + 1) = i + 1 + k by omega]; exact h2⟩
theorem init_sr {K : PySem.W.Frag} {W : Addr → Prop} {H : Hp} {io : Option Nat} {ds : List D} {vs : List V} {ia : Option Addr} {N : List Str} {m : Nat} (tr : ∀ a, W a → ∃ o, H a = some o) (ao : ArgsOk K W H io ds vs ia) (hm : N.length = ds.length + m) :
    SR K ⟨W, ia, H, 0, .none, none⟩ W H (L2.start N vs) (initE io 0 ds ++ List.replicate m .no) := by
  have st : ∀ (i : Nat) v, vs[i]? = some v → At (L2.start N vs) i v := fun i v h => by
    unfold L2.start At
    rw [List.getElem?_append_left (by simpa using (List.getElem?_eq_some_iff.mp h).1), List.getElem?_map, h]
    rfl
  have en : ∀ (i : Nat) x, (initE io 0 ds ++ List.replicate m .no)[i]? = some x → x ≠ .no → ∃ d v, ds[i]? = some d ∧ vs[i]? = some v ∧ x = if io = some i then Ent.io d else Ent.fz d := fun i x h n => by
    by_cases hi : i < ds.length
    · rw [List.getElem?_append_left (by rw [initE_len]; exact hi)] at h
      obtain ⟨d, h1, h2⟩ := initE_at io ds 0 i x h
      rw [Nat.zero_add] at h2
      exact ⟨d, vs[i]'(by rw [ao.len]; exact hi), h1, List.getElem?_eq_getElem _, h2⟩
    · rw [List.getElem?_append_right (by rw [initE_len]; omega)] at h
      exact absurd (List.eq_of_mem_replicate (List.mem_of_getElem? h)) n
  have io1 : ∀ (i : Nat) d, (initE io 0 ds ++ List.replicate m .no)[i]? = some (.io d) → ∃ a, At (L2.start N vs) i (.ref a) ∧ W a ∧ ia = some a ∧ Own K W H a d ∧ io = some i := fun i d h => by
    obtain ⟨d', v, h1, h2, h3⟩ := en i _ h nofun
    by_cases q : io = some i
    · rw [if_pos q] at h3
      cases h3
      obtain ⟨a, d2, e1, e2, e3, e4, e5⟩ := ao.io_ i q
      rw [h1] at e3
      cases e3
      exact ⟨a, st i _ e2, e4, e1, e5, q⟩
    · rw [if_neg q] at h3
      cases h3
  have ow0 : ∀ (i : Nat) d, (initE io 0 ds ++ List.replicate m .no)[i]? ≠ some (.ow d) := fun i d h => by
    obtain ⟨d', v, h1, h2, h3⟩ := en i _ h nofun
    split at h3 <;> cases h3
  refine ⟨?_, fun i d h => ?_, fun i d h => (ow0 i d h).elim, fun i d h => ?_, fun i k d h => ?_, fun i j a m1 m2 h1 h2 => ?_, tr, fun _ h => h, fun a e => ?_, fun _ _ h _ => h, fun _ h => .inl h⟩
  · unfold L2.start
    simp only [List.length_append, initE_len, List.length_replicate, List.length_map]
    rw [ao.len]
    omega
  · obtain ⟨d', v, h1, h2, h3⟩ := en i _ h nofun
    by_cases q : io = some i
    · rw [if_pos q] at h3
      cases h3
    · rw [if_neg q] at h3
      cases h3
      exact ⟨v, st i v h2, ao.fz i d v q h1 h2⟩
  · obtain ⟨a, h1, h2, h3, h4, _⟩ := io1 i d h
    exact ⟨a, h1, h2, h3, h4⟩
  · obtain ⟨d', v, h1, h2, h3⟩ := en i _ h nofun
    split at h3 <;> cases h3
  · obtain ⟨d1, m1⟩ := m1
    obtain ⟨d2, m2⟩ := m2
    rcases m1 with m1 | m1
    · exact (ow0 i d1 m1).elim
    · rcases m2 with m2 | m2
      · exact (ow0 j d2 m2).elim
      · obtain ⟨_, _, _, _, _, e1⟩ := io1 i d1 m1
        obtain ⟨_, _, _, _, _, e2⟩ := io1 j d2 m2
        rw [e1] at e2
        exact Option.some.inj e2
  · have e' : ia = some a := e
    cases q : io with
    | none =>
      have z := ao.no q
      rw [z] at e'
      cases e'
    | some i =>
      obtain ⟨a', d2, e1, e2, e3, e4, e5⟩ := ao.io_ i q
      rw [e'] at e1
      cases e1
      exact e4
/-- a body that does what its data do keeps the promise -/
theorem body_ok {B : Bx} {body : List Stmt} {g : M Fl} {io : Option Nat} {n m : Nat} {N : List Str} {vs : List V} {H : Hp} {Q : VK} {E : XK} (hC : ∀ c, B.C c) (hW : B.Wx = fun cls d _ H => E cls d H) (hm : N.length = n + m) (hb : EvL B body g) (hsp : spD B.X.K io n (runFn io m g) vs H Q E) :
    ∃ t, PSs B.X body t ∧ t { nx := fun _ H' => Q .non H', rt := Q } (L2.start N vs) H := by
  obtain ⟨t, pt, h⟩ := hb
  obtain ⟨W, ds, ia, tr, hl, ao, hf⟩ := hsp
  have s := init_sr (N := N) (m := m) tr ao (by rw [hl]; exact hm)
  refine ⟨t, pt, h ⟨W, ia, H, 0, .none, none⟩ W H _ _ _ (hC _) s ?_⟩
  have bk : ∀ {W' : Addr → Prop} {H' : Hp} {σ' : St} {env' : En}, SR B.X.K ⟨W, ia, H, 0, .none, none⟩ W' H' σ' env' → Bk W H W' H' ia := fun {W' H' σ' env'} s' => ⟨s'.keep, s'.new, s'.sub, s'.tr⟩
  have out : ∀ {W' : Addr → Prop} {H' : Hp} {σ' : St} {env' : En} {o : D}, SR B.X.K ⟨W, ia, H, 0, .none, none⟩ W' H' σ' env' → outOf io env' = some o → OutOk B.X.K W' H' ia o := fun {W' H' σ' env' o} s' e a ea => by
    cases q : io with
    | none =>
      have z := ao.no q
      rw [z] at ea
      cases ea
    | some i =>
      rw [q] at e
      unfold outOf at e
      dsimp only at e
      split at e
      · rename_i d q2
        cases e
        obtain ⟨a', h1, h2, h3, h4⟩ := s'.io i _ q2
        have h3 : ia = some a' := h3
        rw [ea] at h3
        cases h3
        exact h4
      · cases e
  unfold runFn at hf
  cases q : g (initE io 0 ds ++ List.replicate m .no) with
  | bad => rw [q] at hf; exact hf
  | ex k d env =>
    rw [q] at hf
    dsimp only at hf
    cases q2 : outOf io env with
    | none => rw [q2] at hf; exact hf.elim
    | some o =>
      rw [q2] at hf
      intro cls dx σ' W' H' g' s' xr
      rw [hW]
      exact hf cls dx W' H' (bk s') (out s' q2) xr
  | ok fl env =>
    rw [q] at hf
    cases fl with
    | nx =>
      dsimp only at hf
      cases q2 : outOf io env with
      | none => rw [q2] at hf; exact hf.elim
      | some o =>
        rw [q2] at hf
        exact fun σ' W' H' g' s' => hf .non W' H' (bk s') (out s' q2) rfl
    | rt x =>
      dsimp only at hf
      cases q2 : outOf io env with
      | none => rw [q2] at hf; exact hf.elim
      | some o =>
        rw [q2] at hf
        refine fun v σ' W' H' g' s' r => hf v W' H' (bk s') (out s' q2) ?_
        cases x with
        | fz d => exact r
        | ow d =>
          obtain ⟨a, e, h1, h2, h3, _⟩ := r
          exact ⟨a, e, h1, h2, h3⟩
        | no => exact r
        | io _ => exact r
        | xc _ _ => exact r
    | bk => exact hf.elim
    | ct => exact hf.elim
end DL
end
section
set_option maxRecDepth 100000
set_option maxHeartbeats 1000000
/-! DL8: holding, storing; statements -/
namespace DL
open PySem PySem.Spec L2
open PyProof.Rows hiding St

/-! ### a value of one's own is held while others come -/
def Cl.hold (c : Cl) (a : Addr) (o : HO) : Cl := { c with Wc := fun x => c.Wc x ∨ x = a, H0 := upd c.H0 a o }
section
variable {K : PySem.W.Frag} {c : Cl} {W W' : Addr → Prop} {H H' : Hp} {σ : St} {env : En} {a : Addr} {o : HO}
theorem SR.hold (s : SR K c W H σ env) (w : W a) (h : H a = some o) (n : ∀ j, IsMut env j → ¬ At σ j (.ref a)) : SR K (c.hold a o) W H σ env where
  len := s.len
  fz := s.fz
  ow := fun i d q => by
    obtain ⟨b, h1, h2, h3, h4⟩ := s.ow i d q
    exact ⟨b, h1, h2, fun z => z.elim h3 fun e => n i ⟨d, .inl q⟩ (e ▸ h1), h4⟩
  io := s.io
  xc := s.xc
  sep := s.sep
  tr := s.tr
  sub := fun b z => z.elim (s.sub b) fun e => e ▸ w
  ioW := fun b e => .inl (s.ioW b e)
  keep := fun b u e n' => by
    by_cases q : b = a
    · subst q
      have e' : upd c.H0 b o b = some u := e
      rw [upd_same] at e'
      cases e'
      exact h
    · have e' : upd c.H0 a o b = some u := e
      rw [upd_ne q] at e'
      exact s.keep b u e' n'
  new := fun b z => by
    by_cases q : b = a
    · exact .inl (.inr q)
    · rcases s.new b z with h | h
      · exact .inl (.inl h)
      · exact .inr (by show upd c.H0 a o b = none; rw [upd_ne q]; exact h)
theorem SR.unhold (s : SR K (c.hold a o) W H σ env) (hw : ¬ c.Wc a) (h0 : c.H0 a = none) (hio : c.io ≠ some a) : SR K c W H σ env ∧ W a ∧ H a = some o ∧ ∀ j, IsMut env j → ¬ At σ j (.ref a) := by
  have wa : W a := s.sub a (.inr rfl)
  have ha : H a = some o := s.keep a o (by show upd c.H0 a o a = some o; exact upd_same) hio
  refine ⟨⟨s.len, s.fz, fun i d q => ?_, s.io, s.xc, s.sep, s.tr, fun b z => s.sub b (.inl z), fun b e => ?_, fun b u e n' => ?_, fun b z => ?_⟩, wa, ha, fun j ⟨d, m⟩ h => ?_⟩
  · obtain ⟨b, h1, h2, h3, h4⟩ := s.ow i d q
    exact ⟨b, h1, h2, fun z => h3 (.inl z), h4⟩
  · exact (s.ioW b e).elim id fun z => absurd (z ▸ e) hio
  · refine s.keep b u ?_ n'
    show upd c.H0 a o b = some u
    rw [upd_ne (fun z => by rw [z, h0] at e; cases e)]
    exact e
  · rcases s.new b z with h | h
    · rcases h with h | h
      · exact .inl h
      · exact .inr (h ▸ h0)
    · by_cases q : b = a
      · exact .inr (q ▸ h0)
      · have h' : upd c.H0 a o b = none := h
        rw [upd_ne q] at h'
        exact .inr h'
  · rcases m with m | m
    · obtain ⟨b, h1, h2, h3, h4⟩ := s.ow j d m
      have e : some (some (V.ref b)) = some (some (V.ref a)) := h1.symm.trans h
      cases e
      exact h3 (.inr rfl)
    · obtain ⟨b, h1, h2, h3, h4⟩ := s.io j d m
      have e : some (some (V.ref b)) = some (some (V.ref a)) := h1.symm.trans h
      cases e
      exact hio h3
/-- what a value of one's own is, ahead of holding it -/
theorem SR.own0 (s : SR K c W H σ env) (w : W a) (nw : ¬ c.Wc a) : c.H0 a = none ∧ c.io ≠ some a := ⟨(s.new a w).elim (fun z => absurd z nw) id, fun e => nw (s.ioW a e)⟩
/-- a value is stored -/
theorem SR.store (s : SR K c W H σ env) {i : Nat} {x : Ent} {v : V} (r : RepE K c W H σ env x v) (hi : i < env.length) : SR K c W H (σ.set i (some v)) (env.set i x) := by
  have hσ : i < σ.length := by rw [← s.len]; exact hi
  have at1 : At (σ.set i (some v)) i v := by unfold At; rw [List.getElem?_set_self hσ]
  have at2 : ∀ {j : Nat} {u : V}, j ≠ i → (At (σ.set i (some v)) j u ↔ At σ j u) := fun {j u} n => by unfold At; rw [List.getElem?_set_ne (Ne.symm n)]
  have old : ∀ (j : Nat) y, (env.set i x)[j]? = some y → (j = i ∧ y = x) ∨ (j ≠ i ∧ env[j]? = some y) := fun j y q => by
    by_cases e : j = i
    · subst e
      rw [List.getElem?_set_self hi] at q
      exact .inl ⟨rfl, (Option.some.inj q).symm⟩
    · rw [List.getElem?_set_ne (Ne.symm e)] at q
      exact .inr ⟨e, q⟩
  have mutb : ∀ j, IsMut (env.set i x) j → (j = i ∧ ∃ d a, x = .ow d ∧ v = .ref a ∧ ∀ j, IsMut env j → ¬ At σ j (.ref a)) ∨ (j ≠ i ∧ IsMut env j) := fun j ⟨d, m⟩ => by
    rcases m with m | m
    · rcases old j _ m with ⟨e, q⟩ | ⟨e, q⟩
      · subst q
        obtain ⟨a, e1, _, _, _, n⟩ := r
        exact .inl ⟨e, d, a, rfl, e1, n⟩
      · exact .inr ⟨e, d, .inl q⟩
    · rcases old j _ m with ⟨e, q⟩ | ⟨e, q⟩
      · subst q
        exact r.elim
      · exact .inr ⟨e, d, .inr q⟩
  refine ⟨by simpa using s.len, fun j d q => ?_, fun j d q => ?_, fun j d q => ?_, fun j k d q => ?_, fun j k b m1 m2 h1 h2 => ?_, s.tr, s.sub, s.ioW, s.keep, s.new⟩
  · rcases old j _ q with ⟨e, q⟩ | ⟨e, q⟩
    · subst q e
      exact ⟨v, at1, r⟩
    · obtain ⟨u, h1, h2⟩ := s.fz j d q
      exact ⟨u, (at2 e).mpr h1, h2⟩
  · rcases old j _ q with ⟨e, q⟩ | ⟨e, q⟩
    · subst q e
      obtain ⟨a, rfl, h1, h2, h3, _⟩ := r
      exact ⟨a, at1, h1, h2, h3⟩
    · obtain ⟨a, h1, h2⟩ := s.ow j d q
      exact ⟨a, (at2 e).mpr h1, h2⟩
  · rcases old j _ q with ⟨e, q⟩ | ⟨e, q⟩
    · subst q
      exact r.elim
    · obtain ⟨a, h1, h2⟩ := s.io j d q
      exact ⟨a, (at2 e).mpr h1, h2⟩
  · rcases old j _ q with ⟨e, q⟩ | ⟨e, q⟩
    · subst q
      exact r.elim
    · obtain ⟨h1, h2⟩ := s.xc j k d q
      exact ⟨(at2 e).mpr h1, h2⟩
  · rcases mutb j m1 with ⟨e1, d1, a1, _, e2, n1⟩ | ⟨e1, m4⟩
    · rcases mutb k m2 with ⟨e3, _⟩ | ⟨e3, m3⟩
      · rw [e1, e3]
      · subst e1
        have e : some (some v) = some (some (V.ref b)) := at1.symm.trans h1
        rw [e2] at e
        cases e
        exact (n1 k m3 ((at2 e3).mp h2)).elim
    · rcases mutb k m2 with ⟨e3, d1, a1, _, e2, n1⟩ | ⟨e3, m3⟩
      · subst e3
        have e : some (some v) = some (some (V.ref b)) := at1.symm.trans h2
        rw [e2] at e
        cases e
        exact (n1 j m4 ((at2 e1).mp h1)).elim
      · exact s.sep j k b m4 m3 ((at2 e1).mp h1) ((at2 e3).mp h2)
/-- a slot is forgotten -/
theorem SR.forget (s : SR K c W H σ env) {i : Nat} (y : Option V) : SR K c W H (σ.set i y) (env.set i .no) := by
  have at2 : ∀ {j : Nat} {u : V}, j ≠ i → (At (σ.set i y) j u ↔ At σ j u) := fun {j u} n => by unfold At; rw [List.getElem?_set_ne (Ne.symm n)]
  have old : ∀ (j : Nat) x, (env.set i .no)[j]? = some x → x ≠ .no → j ≠ i ∧ env[j]? = some x := fun j x q n => by
    by_cases e : j = i
    · subst e
      by_cases hi : j < env.length
      · rw [List.getElem?_set_self hi] at q
        cases q
        exact absurd rfl n
      · rw [List.getElem?_eq_none (by simpa using hi)] at q
        cases q
    · rw [List.getElem?_set_ne (Ne.symm e)] at q
      exact ⟨e, q⟩
  have mutb : ∀ j, IsMut (env.set i .no) j → j ≠ i ∧ IsMut env j := fun j ⟨d, m⟩ => by
    rcases m with m | m
    · obtain ⟨n, q⟩ := old j _ m nofun
      exact ⟨n, d, .inl q⟩
    · obtain ⟨n, q⟩ := old j _ m nofun
      exact ⟨n, d, .inr q⟩
  refine ⟨by simpa using s.len, fun j d q => ?_, fun j d q => ?_, fun j d q => ?_, fun j k d q => ?_, fun j k b m1 m2 h1 h2 => ?_, s.tr, s.sub, s.ioW, s.keep, s.new⟩
  · obtain ⟨n, q⟩ := old j _ q nofun
    obtain ⟨u, h1, h2⟩ := s.fz j d q
    exact ⟨u, (at2 n).mpr h1, h2⟩
  · obtain ⟨n, q⟩ := old j _ q nofun
    obtain ⟨a, h1, h2⟩ := s.ow j d q
    exact ⟨a, (at2 n).mpr h1, h2⟩
  · obtain ⟨n, q⟩ := old j _ q nofun
    obtain ⟨a, h1, h2⟩ := s.io j d q
    exact ⟨a, (at2 n).mpr h1, h2⟩
  · obtain ⟨n, q⟩ := old j _ q nofun
    obtain ⟨h1, h2⟩ := s.xc j k d q
    exact ⟨(at2 n).mpr h1, h2⟩
  · obtain ⟨n1, m1⟩ := mutb j m1
    obtain ⟨n2, m2⟩ := mutb k m2
    exact s.sep j k b m1 m2 ((at2 n1).mp h1) ((at2 n2).mp h2)
end

/-! ### statements -/
/-- what every place in a def's body has -/
structure Gd (B : Bx) (k : Nat) : Prop where
  calm : B.X.calm = true
  room : Room k B.X.A
  gd : B.X.A.guards = some []
  tk : Takes B.X B.Wx
  po : PassesOwn (model B.X.prog B.X.w) B.X.A B.X.env B.X.xe
  nd : B.X.N.Nodup
  cl : ∀ c a o, B.C c → B.C (c.hold a o)
section
variable {B : Bx} {e : Expr} {st : Stmt} {rest : List Stmt} {pos p : Pos}
def lNil : M Fl := fun env => .ok .nx env
theorem el_nil : EvL B [] lNil := ⟨_, pss_nil, fun c W H σ env E hc s hq => hq σ W H Go.refl s⟩
def lCons (f g : M Fl) : M Fl := fun env => match f env with
  | .ok .nx env' => g env'
  | .ok fl env' => .ok fl env'
  | .bad => .bad
  | .ex c d env' => .ex c d env'
theorem el_cons {f g : M Fl} (h : EvS B st f) (hr : EvL B rest g) : EvL B (st :: rest) (lCons f g) := by
  obtain ⟨t, p, h⟩ := h
  obtain ⟨tr, pr, hr⟩ := hr
  refine ⟨_, pss_cons p pr, fun c W H σ env E hc s hq => h c W H σ env _ hc s ?_⟩
  unfold lCons at hq
  cases q : f env with
  | bad => rw [q] at hq; exact hq
  | ex k d env' => rw [q] at hq; exact hq
  | ok fl env' =>
    rw [q] at hq
    cases fl with
    | nx => exact fun σ' W' H' g s' => hr c W' H' σ' env' E hc s' (hq.imp (fun _ _ z => z.go g) fun _ _ _ z => z.go g)
    | rt x => exact hq
    | bk => exact hq
    | ct => exact hq
theorem el_one {f : M Fl} (h : EvS B st f) : EvL B [st] f := by
  obtain ⟨t, p, h⟩ := h
  exact ⟨t, pss_one p, h⟩
theorem es_pass : EvS B (.Pass pos) lNil := ⟨_, ps_pass, fun c W H σ env E hc s hq => hq σ W H Go.refl s⟩
theorem es_break : EvS B (.Break pos) (fun env => .ok .bk env) := ⟨_, ps_break, fun c W H σ env E hc s hq => hq σ W H Go.refl s⟩
theorem es_continue : EvS B (.Continue pos) (fun env => .ok .ct env) := ⟨_, ps_continue, fun c W H σ env E hc s hq => hq σ W H Go.refl s⟩
theorem es_doc {x : Str} {j : Nat} : EvS B (.Expr (.Constant (.str x) j p) pos) lNil := ⟨_, ps_doc, fun c W H σ env E hc s hq => hq σ W H Go.refl s⟩
def lDrop (f : M Ent) : M Fl := fun env => match f env with
  | .ok _ env' => .ok .nx env'
  | .bad => .bad
  | .ex c d env' => .ex c d env'
theorem es_expr {f : M Ent} (h : EvO B e f) (hs : swapsWith e none pos.line B.X.env = pure false := by rfl) : EvS B (.Expr e pos) (lDrop f) := by
  obtain ⟨t, p, h⟩ := h
  refine ⟨_, ps_expr p hs, fun c W H σ env E hc s hq => h c W H σ env _ hc s ?_⟩
  unfold lDrop at hq
  cases q : f env with
  | bad => rw [q] at hq; exact hq
  | ex k d env' => rw [q] at hq; exact hq.xp
  | ok x env' => rw [q] at hq; exact fun v W' H' g s' r => hq σ W' H' g s'
def lRet (f : M Ent) : M Fl := fun env => match f env with
  | .ok x env' => .ok (.rt x) env'
  | .bad => .bad
  | .ex c d env' => .ex c d env'
theorem es_ret {f : M Ent} (h : EvO B e f) : EvS B (.Return (some e) pos) (lRet f) := by
  obtain ⟨t, p, h⟩ := h
  refine ⟨_, ps_ret p, fun c W H σ env E hc s hq => h c W H σ env _ hc s ?_⟩
  unfold lRet at hq
  cases q : f env with
  | bad => rw [q] at hq; exact hq
  | ex k d env' => rw [q] at hq; exact hq.xp
  | ok x env' => rw [q] at hq; exact fun v W' H' g s' r => hq v σ W' H' g s' r
theorem es_retN : EvS B (.Return none pos) (fun env => .ok (.rt (.fz .none)) env) := ⟨_, ps_retN, fun c W H σ env E hc s hq => hq .non σ W H Go.refl s rfl⟩
def lIf (t : M Bool) (f g : M Fl) : M Fl := dIf t f g
theorem es_if {a b : List Stmt} {t : M Bool} {f g : M Fl} (hc : EvT B e t) (ha : EvL B a f) (hb : EvL B b g) : EvS B (.If e a b pos) (lIf t f g) := by
  obtain ⟨tc, pc, hc⟩ := hc
  obtain ⟨ta, pa, ha⟩ := ha
  obtain ⟨tb, pb, hb⟩ := hb
  refine ⟨_, ps_if pc pa pb, fun c W H σ env E hC s hq => hc c W H σ env _ hC s ?_⟩
  unfold lIf dIf at hq
  cases q : t env with
  | bad => rw [q] at hq; exact hq
  | ex k d env' => rw [q] at hq; exact hq.xp
  | ok k env' =>
    rw [q] at hq
    intro W' H' g s'
    cases k with
    | true =>
      rw [if_pos rfl]
      exact ha c W' H' σ env' E hC s' (hq.imp (fun _ _ z => z.go g) fun _ _ _ z => z.go g)
    | false =>
      rw [if_neg Bool.false_ne_true]
      exact hb c W' H' σ env' E hC s' (hq.imp (fun _ _ z => z.go g) fun _ _ _ z => z.go g)
def lSet (i : Nat) (f : M Ent) : M Fl := fun env => match f env with
  | .ok x env' => if i < env'.length then .ok .nx (env'.set i x) else .bad
  | .bad => .bad
  | .ex c d env' => .ex c d env'
theorem es_set {i : Nat} {x : Str} {f : M Ent} (hN : B.X.N.Nodup) (h : EvO B e f) (hi : B.X.N[i]? = some x := by rfl) (hx : Loc B.X.env.scope x := by first | exact Or.inl rfl | exact Or.inr rfl)
    (hs : swapsWith e (some (.Name x p)) pos.line B.X.env = pure false := by rfl) (hf : B.X.fn x = true ∨ B.X.env.scope.names.lookup x = some .local := by first | exact Or.inl rfl | exact Or.inr rfl) :
    EvS B (.Assign [.Name x p] e pos) (lSet i f) := by
  obtain ⟨t, pt, h⟩ := h
  refine ⟨_, ps_set hN hi hx pt hs hf, fun c W H σ env E hc s hq => h c W H σ env _ hc s ?_⟩
  unfold lSet at hq
  cases q : f env with
  | bad => rw [q] at hq; exact hq
  | ex k d env' => rw [q] at hq; exact hq.xp
  | ok y env' =>
    rw [q] at hq
    dsimp only at hq
    by_cases hl : i < env'.length
    · rw [if_pos hl] at hq
      exact fun v W' H' g s' r => hq _ W' H' g (s'.store r hl)
    · rw [if_neg hl] at hq
      exact hq.elim
end

/-! ### targets -/
/-- nothing but the slots vs is stored -/
structure Upto (vs : List Nat) (σ σ' : St) : Prop where
  len : σ'.length = σ.length
  at_ : ∀ j, j ∉ vs → σ'[j]? = σ[j]?
/-- a target that takes a value that nobody writes; vs: the slots that it stores -/
def EvTg (B : Bx) (tg : Expr) (vs : List Nat) (h : D → M Unit) : Prop := ∃ g, PG B.X tg g ∧ ∀ c W H σ env v d Q, B.C c → SR B.X.K c W H σ env → Rep B.X.K W H d v →
  (h d env).Is (fun _ env' => ∀ σ' W' H', Go W H W' H' → SR B.X.K c W' H' σ' env' → Upto vs σ σ' → Q σ' H') (B.XS c W H) → g v σ H Q
def EvTgs (B : Bx) (tgs : List Expr) (vs : List Nat) (h : List D → M Unit) : Prop := ∃ g, PGs B.X tgs g ∧ ∀ c W H σ env us ds Q, B.C c → SR B.X.K c W H σ env → RepL B.X.K W H ds us →
  (h ds env).Is (fun _ env' => ∀ σ' W' H', Go W H W' H' → SR B.X.K c W' H' σ' env' → Upto vs σ σ' → Q σ' H') (B.XS c W H) → g us σ H Q
section
variable {B : Bx} {e : Expr} {es : List Expr} {pos p : Pos}
def tName (i : Nat) : D → M Unit := fun d env => if i < env.length then .ok () (env.set i (.fz d)) else .bad
theorem tg_name {i : Nat} {x : Str} (hN : B.X.N.Nodup) (hi : B.X.N[i]? = some x := by rfl) (hx : Loc B.X.env.scope x := by first | exact Or.inl rfl | exact Or.inr rfl)
    (hf : B.X.fn x = true ∨ B.X.env.scope.names.lookup x = some .local := by first | exact Or.inl rfl | exact Or.inr rfl) : EvTg B (.Name x p) [i] (tName i) := by
  refine ⟨_, pg_name hN hi hx hf, fun c W H σ env v d Q hc s r hq => ?_⟩
  unfold tName at hq
  by_cases hl : i < env.length
  · rw [if_pos hl] at hq
    exact hq _ W H Go.refl (s.store (x := .fz d) r hl) ⟨List.length_set, fun j n => List.getElem?_set_ne fun z => n (by rw [← z]; exact List.mem_singleton.mpr rfl)⟩
  · rw [if_neg hl] at hq
    exact hq.elim
def tNil : List D → M Unit := fun ds env => match ds with
  | [] => .ok () env
  | _ => .bad
def tCons (h : D → M Unit) (hs : List D → M Unit) : List D → M Unit := fun ds => match ds with
  | [] => fun _ => .bad
  | d :: ds => M.bind (h d) fun _ => hs ds
theorem tgs_nil : EvTgs B [] [] tNil := by
  refine ⟨_, pgs_nil, fun c W H σ env us ds Q hc s r hq => ?_⟩
  cases ds with
  | nil => exact ⟨r, hq σ W H Go.refl s ⟨rfl, fun _ _ => rfl⟩⟩
  | cons d ds => exact hq.elim
theorem tgs_cons {vs us : List Nat} {h : D → M Unit} {hs : List D → M Unit} (h1 : EvTg B e vs h) (h2 : EvTgs B es us hs) (ha : (assignEach (e :: es) B.X.env).map (·.2) = assign e B.X.env :: (assignEach es B.X.env).map (·.2) := by rfl) : EvTgs B (e :: es) (vs ++ us) (tCons h hs) := by
  obtain ⟨g1, p1, h1⟩ := h1
  obtain ⟨g2, p2, h2⟩ := h2
  refine ⟨_, pgs_cons p1 p2 ha, fun c W H σ env ws ds Q hc s r hq => ?_⟩
  cases ds with
  | nil => exact hq.elim
  | cons d ds =>
    obtain ⟨v, rest, rfl, r1, r2⟩ := r
    refine ⟨v, rest, rfl, h1 c W H σ env v d _ hc s r1 ((Is_bind hq).imp (fun _ env1 z σ1 W1 H1 g1 s1 n1 => ?_) fun _ _ _ z => z)⟩
    refine h2 c W1 H1 σ1 env1 rest ds Q hc s1 (r2.go g1) (z.imp (fun _ env2 z2 σ2 W2 H2 g2 s2 n2 => ?_) fun _ _ _ z => z.go g1)
    exact z2 σ2 W2 H2 (g1.trans g2) s2 ⟨n2.len.trans n1.len, fun j n => (n2.at_ j fun z => n (List.mem_append_right _ z)).trans (n1.at_ j fun z => n (List.mem_append_left _ z))⟩
def tTup (n : Nat) (h : List D → M Unit) : D → M Unit := fun d => match d with
  | .tuple ds => if ds.length = n then h ds else fun _ => .bad
  | _ => fun _ => .bad
theorem tg_tup {vs : List Nat} {h : List D → M Unit} {n k : Nat} (hc : B.X.calm = true) (hs : EvTgs B es vs h) (hn : (assignEach es B.X.env).length = n := by rfl) (hst : (assignEach es B.X.env).findIdx? (·.1) = none := by rfl) : EvTg B (.Tuple es k pos) vs (tTup n h) := by
  obtain ⟨g, pg, hs⟩ := hs
  refine ⟨_, pg_tup hc pg hn hst, fun c W H σ env v d Q hC s r hq => ?_⟩
  cases d with
  | tuple ds =>
    obtain ⟨a, ws, rfl, q1, q2, _⟩ := r
    unfold tTup at hq
    by_cases hl : ds.length = n
    · dsimp only at hq
      rw [if_pos hl] at hq
      exact ⟨a, ws, rfl, q1.sq, by rw [q2.length]; exact hl, hs c W H σ env ws ds Q hC s q2 hq⟩
    · dsimp only at hq
      rw [if_neg hl] at hq
      exact hq.elim
  | _ => exact hq.elim
def lAsg (f : M D) (h : D → M Unit) : M Fl := fun env => match f env with
  | .ok d env' => (match h d env' with
    | .ok _ env2 => .ok .nx env2
    | .bad => .bad
    | .ex c d env' => .ex c d env')
  | .bad => .bad
  | .ex c d env' => .ex c d env'
theorem es_asg {tg : Expr} {vs : List Nat} {f : M D} {h : D → M Unit} (he : EvF B e f) (ht : EvTg B tg vs h) (hs : swapsWithSole [tg] e pos.line B.X.env = pure false := by rfl) (hw : swappedStores [tg] e B.X.env = pure none := by rfl)
    (h1 : (assignEach [tg] B.X.env).map (·.2) = [assign tg B.X.env] := by rfl) : EvS B (.Assign [tg] e pos) (lAsg f h) := by
  obtain ⟨t, pt, he⟩ := he
  obtain ⟨g, pg, ht⟩ := ht
  refine ⟨_, ps_asg pt pg hs hw h1, fun c W H σ env E hc s hq => he c W H σ env _ hc s ?_⟩
  unfold lAsg at hq
  cases q : f env with
  | bad => rw [q] at hq; exact hq
  | ex k d env' => rw [q] at hq; exact hq.xp
  | ok d env' =>
    rw [q] at hq
    dsimp only at hq
    refine fun v W' H' g s' r => ht c W' H' σ env' v d _ hc s' r ?_
    cases q2 : h d env' with
    | bad => rw [q2] at hq; exact hq
    | ex k d env' => rw [q2] at hq; exact hq.go g
    | ok _ env2 => rw [q2] at hq; exact fun σ' W2 H2 g2 s2 _ => hq σ' W2 H2 (g.trans g2) s2
end
end DL
end
section
set_option maxRecDepth 100000
set_option maxHeartbeats 1000000
/-! DL9: the rule of a def -/
namespace DL
open PySem PySem.Spec L2
open PyProof.Rows hiding St

theorem Gd.of {P : Program} {w : World} {K : PySem.W.Frag} {mg : Str → Option Value} {base : Heap} {N : List Str} {qual : Str} {scope : Scope} {f : Addr} {cdv : Value} {A : Around} {outer : List Env} {s : Shared} {H : Hp} {E : XK} {k : Nat}
    (hr : Room k (A.deeper (envOfC qual scope s.heap.objs.size f cdv))) (hg : A.guards = some []) (nd : N.Nodup) :
    Gd ⟨cxOf (L2.CX P w) P w K mg base N qual scope f cdv A outer s H E, fun cls d _ H => E cls d H, fun _ => True⟩ k where
  calm := rfl
  room := hr
  gd := hg
  tk := takes_of rfl rfl rfl rfl
  po := passes_of rfl
  nd := nd
  cl := fun _ _ _ _ => trivial

/-- a def, by its body -/
theorem fnG_of {P : Program} {w : World} {K : PySem.W.Frag} {mg : Str → Option Value} {base : Heap} {k : Nat} {f : Addr} {fd : FuncData} {x qual : Str} {params : Arguments} {body : List Stmt} {scope : Scope} {dvs : List V} {kws : List (Str × V)}
    {N ps : List Str} {io : Option Nat} {n m : Nat} {g : M Fl} (F : FunD K x qual params body scope dvs kws f fd) (S : FnScope N ps scope) (hn : ps.length = n) (hm : N.length = n + m)
    (hb : ∀ (B : Bx), Gd B k → B.X.K = K → B.X.mg = mg → B.X.prog = P → B.X.w = w → B.X.N = N → B.X.env.scope = scope → B.X.base = base → (∀ c, B.C c) → EvL B body g) :
    FnG P w K mg base (k + 1) f fd ps (spD K io n (runFn io m g)) := by
  obtain ⟨oc, od, dV, kV, doc, pm, an, cdv, ct, osl, rfl, lk, hcd, _, _⟩ := F.ex
  have len : ∀ vs H Q E, spD K io n (runFn io m g) vs H Q E → vs.length = ps.length := fun vs H Q E h => by
    obtain ⟨W, ds, ia, tr, hl, ao, _⟩ := h
    rw [ao.len, hl, hn]
  refine ⟨len, fun A outer s H args us vs Q E hr hg e0 hbi r hsp => ?_⟩
  have hl := len _ _ _ _ hsp
  have KX : K.In s.heap := e0.mod.kin.keeps fun b o e => (e0.bs b o e).1
  have lim : s.heap.NoLimit := e0.mod.nolimit.keeps fun b o e => (e0.bs b o e).1
  have hkind : ∀ y ∈ ps.zip us, scope.names.lookup y.1 = some .local ∨ (scope.names.lookup y.1 = some .cell ∧ ((cellsFrom (s.heap.objs.size + 1) scope.names []).lookup y.1).isSome = true) := fun ⟨nm, v⟩ hy => by
    rcases S.par nm (List.of_mem_zip hy).1 with q | q
    · exact .inl q
    · exact .inr ⟨q, PySem.W.cellsFrom_some _ _ _ (.inl q)⟩
  refine codeAny_call_function hr.depth (KX _ _ lk) rfl S.co S.gen rfl (PySem.W.codeRec_of KX hcd) (hbi _ _ _ _ ?_)
  refine wpAny_newFunctionEnv_cells S.kind hkind fun env he s1 xx => ?_
  subst he
  refine ⟨lim.keeps xx.toInCall.keep, codeAny_func ?_⟩
  obtain ⟨t, ht, hq⟩ := body_ok (B := ⟨cxOf (L2.CX P w) P w K mg base N qual scope f cdv A outer s H E, fun cls d _ H => E cls d H, fun _ => True⟩) (fun _ => trivial) rfl hm
    (hb _ (Gd.of (hr.deeper _) hg S.nd) rfl rfl rfl rfl rfl rfl rfl fun _ => trivial) hsp
  have I : Inv (cxOf (L2.CX P w) P w K mg base N qual scope f cdv A outer s H E) [] (L2.start N vs) H s1 := inv_start S hr.hd e0 hl r xx
  refine wpAny_mono (ht.run [] s1 (L2.start N vs) H _ I hq) (fun fl s' hs => ?_) fun e s' hs => hs
  have fin : ∀ {σ' : St} {H' : Hp} {v : V} {u : Value}, Inv (cxOf (L2.CX P w) P w K mg base N qual scope f cdv A outer s H E) [] σ' H' s' → RelV v u → Q v H' → CE outer P w H s Q u s' :=
    fun {σ' H' v u} J rv q => ⟨v, H', J.os, J.bare, J.base, J.hok, rv, q⟩
  cases fl with
  | ret u =>
    obtain ⟨v, σ', H', J, rv, q⟩ := hs
    exact fin J rv q
  | next =>
    obtain ⟨σ', H', J, q⟩ := hs
    exact fin (v := V.non) (u := Value.none) J rfl q
  | brk =>
    obtain ⟨_, _, _, q⟩ := hs
    exact False.elim q
  | cont =>
    obtain ⟨_, _, _, q⟩ := hs
    exact False.elim q
end DL
end
section
set_option maxRecDepth 100000
set_option maxHeartbeats 1000000
/-! DL10: what loops walk; for, while, comprehensions of lists -/
namespace DL
open PySem PySem.Spec L2
open PyProof.Rows hiding St

/-- the iterator gives ds -/
structure ItOk (K : PySem.W.Frag) (J : It) (ds : List D) (W : Addr → Prop) (H : Hp) : Prop where
  le : ds.length ≤ sizeLine
  go : ∀ W' H', Go W H W' H' → ∀ i, i < ds.length → J.go i H'
  stop : ∀ W' H', Go W H W' H' → J.stop ds.length H'
  yld : ∀ W' H', Go W H W' H' → (∀ a, W' a → ∃ o, H' a = some o) → ∀ i x H2 d, J.yld i H' x H2 → ds[i]? = some d → (H2 = H' ∨ ∃ T o, H' T = none ∧ H2 = upd H' T o) ∧ Rep K W' H2 d x
theorem ItOk.go_ {K : PySem.W.Frag} {J : It} {ds : List D} {W W' : Addr → Prop} {H H' : Hp} (I : ItOk K J ds W H) (g : Go W H W' H') : ItOk K J ds W' H' :=
  ⟨I.le, fun W2 H2 g2 => I.go W2 H2 (g.trans g2), fun W2 H2 g2 => I.stop W2 H2 (g.trans g2), fun W2 H2 g2 => I.yld W2 H2 (g.trans g2)⟩
def EvIt (B : Bx) (tg it : Expr) (f : M (List D)) : Prop := ∃ wi, PI B.X tg it wi ∧ ∀ c W H σ env R, B.C c → SR B.X.K c W H σ env →
  (f env).Is (fun ds env' => ∀ J W' H', Go W H W' H' → SR B.X.K c W' H' σ env' → ItOk B.X.K J ds W' H' → R J H') (B.XP c W H σ) → wi σ H R
/-- a yield's heap -/
theorem SR.yl {K : PySem.W.Frag} {c : Cl} {W : Addr → Prop} {H H2 : Hp} {σ : St} {env : En} (s : SR K c W H σ env) (h : H2 = H ∨ ∃ T o, H T = none ∧ H2 = upd H T o) : Go W H W H2 ∧ SR K c W H2 σ env := by
  rcases h with rfl | ⟨T, o, n, rfl⟩
  · exact ⟨Go.refl, s⟩
  · exact ⟨go_new s n, s.new_ n⟩

/-! ### iterators -/
section
variable {B : Bx} {tg e : Expr}
/-- a list, a tuple or a text -/
def iAny (K : PySem.W.Frag) (tl : TE) : TI := fun σ H R => tl σ H fun x H1 => (∃ a, x = .ref a ∧ (∃ xs, SqL K H1 a xs) ∧ R (Itl K a) H1) ∨ (∃ a, x = .ref a ∧ (∃ xs, SqT K H1 a xs) ∧ R (Itt K a) H1) ∨ (∃ y, x = .str y ∧ R (Its y) H1)
theorem pi_any {X : Cx} {l : Expr} {tl : TE} (hl : PE X l tl) : PI X tg l (iAny X.K tl) := by
  refine ⟨fun pins s σ H R I h => ?_⟩
  refine thn (hl.run pins s σ H _ I h) fun v s1 ⟨x, H1, I1, r1, q1⟩ => ?_
  rcases q1 with ⟨a, e, ⟨xs, hq⟩, q⟩ | ⟨a, e, ⟨xs, hq⟩, q⟩ | ⟨y, e, q⟩
  · subst e
    cases r1
    obtain ⟨its, rv, p, hz⟩ := I1.list hq
    refine wpAny_pyIter_list p.isList ?_
    exact pi_one (tk := s1.toks) I1 _ (turn_list a _) ⟨_, Heap.get?_push_size _ rfl, rfl, rfl⟩ q
  · subst e
    cases r1
    obtain ⟨its, rv, p, hz⟩ := I1.tuple hq
    refine wpAny_pyIter_tuple (show s1.heap.IsTuple a its.toArray from p) ?_
    exact pi_one (tk := s1.toks) I1 _ (turn_tuple a _) ⟨_, Heap.get?_push_size _ rfl, rfl, rfl⟩ q
  · subst e
    obtain ⟨t, rfl⟩ := r1
    cases ha : y.cps.all (· < 128)
    · exact wpAny_pyIter_wide ha (pi_one (tk := s1.toks) I1 _ (turn_str _ y t "str_iterator" (.inr rfl)) ⟨_, Heap.get?_push_size _ rfl, rfl, rfl⟩ q)
    · exact wpAny_pyIter_ascii ha (pi_one (tk := s1.toks) I1 _ (turn_str _ y t "str_ascii_iterator" (.inl rfl)) ⟨_, Heap.get?_push_size _ rfl, rfl, rfl⟩ q)
def chars (x : Str) : List D := x.cps.toList.map fun c => .str ⟨#[c]⟩
def seqD : D → Option (List D)
  | .list xs => some xs
  | .tuple xs => some xs
  | .str x => some (chars x)
  | _ => none
theorem SL.uniq {K : PySem.W.Frag} {W : Addr → Prop} {H : Hp} {a : Addr} {xs : List V} (s : SL K W H a xs) {W' : Addr → Prop} {H' : Hp} (g : Go W H W' H') : SqL K H' a xs := (s.go g).sq
theorem chars_ok {x : Str} {i : Nat} {d : D} (h : (chars x)[i]? = some d) : ∃ c, x.cps[i]? = some c ∧ d = .str ⟨#[c]⟩ := by
  unfold chars at h
  rw [List.getElem?_map] at h
  cases q : x.cps.toList[i]? with
  | none => rw [q] at h; cases h
  | some c =>
    rw [q] at h
    exact ⟨c, by simpa using q, (Option.some.inj h).symm⟩
theorem str1_ok {x : Str} (h : PyData.strOk x = true) {i : Nat} {c : Nat} (hc : x.cps[i]? = some c) : PyData.strOk (⟨#[c]⟩ : Str) = true := by
  unfold PyData.strOk at h ⊢
  simp only [Array.all_eq_true] at h ⊢
  obtain ⟨hi, e⟩ := Array.getElem?_eq_some_iff.mp hc
  intro j hj
  have : j = 0 := by have : j < 1 := hj; omega
  subst this
  have z := h i hi
  rw [e] at z
  exact z
theorem itOk_list {K : PySem.W.Frag} {a : Addr} {ds : List D} {vs : List V} {W : Addr → Prop} {H : Hp} (s : SL K W H a vs) (r : RepL K W H ds vs) (z : ds.length ≤ sizeLine) : ItOk K (Itl K a) ds W H where
  le := z
  go := fun W' H' g i hi => ⟨vs, vs[i]'(by rw [r.length]; exact hi), s.uniq g, List.getElem?_eq_getElem _⟩
  stop := fun W' H' g => ⟨vs, s.uniq g, by rw [r.length]; exact Nat.le_refl _⟩
  yld := fun W' H' g _ i x H2 d y hd => by
    obtain ⟨e, f⟩ := y
    subst e
    obtain ⟨v, h1, h2⟩ := (r.go g).get hd
    have := f vs (s.uniq g)
    rw [h1] at this
    cases this
    exact ⟨.inl rfl, h2⟩
theorem itOk_tup {K : PySem.W.Frag} {a : Addr} {ds : List D} {vs : List V} {W : Addr → Prop} {H : Hp} (s : ST K W H a vs) (r : RepL K W H ds vs) (z : ds.length ≤ sizeLine) : ItOk K (Itt K a) ds W H where
  le := z
  go := fun W' H' g i hi => ⟨vs, vs[i]'(by rw [r.length]; exact hi), (s.go g).sq, List.getElem?_eq_getElem _⟩
  stop := fun W' H' g => ⟨vs, (s.go g).sq, by rw [r.length]; exact Nat.le_refl _⟩
  yld := fun W' H' g _ i x H2 d y hd => by
    obtain ⟨e, f⟩ := y
    subst e
    obtain ⟨v, h1, h2⟩ := (r.go g).get hd
    have := f vs (s.go g).sq
    rw [h1] at this
    cases this
    exact ⟨.inl rfl, h2⟩
theorem chars_length (x : Str) : (chars x).length = x.cps.size := by unfold chars; simp
theorem itOk_str {K : PySem.W.Frag} {x : Str} {W : Addr → Prop} {H : Hp} (z : x.length ≤ sizeLine) (ok : PyData.strOk x = true) : ItOk K (Its x) (chars x) W H where
  le := by rw [chars_length]; exact z
  go := fun W' H' g i hi => by rw [chars_length] at hi; exact hi
  stop := fun W' H' g => by rw [chars_length]; exact Nat.le_refl _
  yld := fun W' H' g _ i v H2 d y hd => by
    obtain ⟨e, c, h1, h2⟩ := y
    obtain ⟨c', h3, h4⟩ := chars_ok hd
    rw [h1] at h3
    cases h3
    subst e h2 h4
    exact ⟨.inl rfl, rfl, by show 1 ≤ sizeLine; decide, str1_ok ok h1⟩
def gSeq (f : M D) : M (List D) := fun env => match f env with
  | .ok d env' => (match seqD d with
    | some ds => .ok ds env'
    | none => .bad)
  | .bad => .bad
  | .ex c d env' => .ex c d env'
theorem it_any {f : M D} (h : EvF B e f) : EvIt B tg e (gSeq f) := by
  obtain ⟨t, p, h⟩ := h
  refine ⟨_, pi_any p, fun c W H σ env R hc s hq => h c W H σ env _ hc s ?_⟩
  unfold gSeq at hq
  cases q : f env with
  | bad => rw [q] at hq; exact hq
  | ex k d env' => rw [q] at hq; exact hq
  | ok d env' =>
    rw [q] at hq
    dsimp only at hq
    intro v W' H' g s' r
    cases d with
    | list xs =>
      obtain ⟨a, vs, rfl, r1, r2, z⟩ := r
      exact .inl ⟨a, rfl, ⟨vs, r1.sq⟩, hq _ W' H' g s' (itOk_list r1 r2 z)⟩
    | tuple xs =>
      obtain ⟨a, vs, rfl, r1, r2, z⟩ := r
      exact .inr (.inl ⟨a, rfl, ⟨vs, r1.sq⟩, hq _ W' H' g s' (itOk_tup r1 r2 z)⟩)
    | str x =>
      obtain ⟨rfl, z, ok⟩ := r
      exact .inr (.inr ⟨x, rfl, hq _ W' H' g s' (itOk_str z ok)⟩)
    | _ => exact hq.elim
end
section
variable {B : Bx} {tg e : Expr} {p pos : Pos}
def ups (lo : Int) (n : Nat) : List D := (List.range n).map fun (i : Nat) => .int (lo + (i : Int))
theorem ups_length (lo : Int) (n : Nat) : (ups lo n).length = n := by unfold ups; simp
theorem ups_at {lo : Int} {n i : Nat} {d : D} (h : (ups lo n)[i]? = some d) : d = .int (lo + (i : Int)) := by
  unfold ups at h
  rw [List.getElem?_map] at h
  cases q : (List.range n)[i]? with
  | none => rw [q] at h; cases h
  | some j =>
    rw [q] at h
    have : j = i := by
      obtain ⟨hi, e⟩ := List.getElem?_eq_some_iff.mp q
      simpa using e.symm
    subst this
    exact (Option.some.inj h).symm
theorem itOk_rng {K : PySem.W.Frag} {lo : Int} {n : Nat} {W : Addr → Prop} {H : Hp} (z : n ≤ sizeLine) : ItOk K (Itr lo n) (ups lo n) W H where
  le := by rw [ups_length]; exact z
  go := fun W' H' g i hi => by rw [ups_length] at hi; exact hi
  stop := fun W' H' g => by rw [ups_length]; exact Nat.le_refl _
  yld := fun W' H' g _ i x H2 d y hd => by
    obtain ⟨e, rfl⟩ := y
    rw [ups_at hd]
    exact ⟨.inl e, rfl⟩
def isInt : D → Option Int
  | .int i => some i
  | _ => none
def gRng1 (f : M (List D)) : M (List D) := fun env => match f env with
  | .ok [.int j] env' => if j ≤ 16777216 ∧ -16777216 ≤ j then .ok (ups 0 j.toNat) env' else .bad
  | .ok _ _ => .bad
  | .bad => .bad
  | .ex c d env' => .ex c d env'
theorem it_rng1 {a : Expr} {f : M (List D)} (h : EvA B [a] f) (hg : Gl B.X "range") (hm : B.X.mg "range" = none) (hs : starEach [a] B.X.env = [(false, eval a B.X.env)] := by rfl) : EvIt B tg (.Call (.Name "range" p) [a] [] pos) (gRng1 f) := by
  obtain ⟨t, pa, h⟩ := h
  refine ⟨_, pi_range1 hg hm pa hs, fun c W H σ env R hc s hq => h c W H σ env _ hc s ?_⟩
  unfold gRng1 at hq
  cases q : f env with
  | bad => rw [q] at hq; exact hq
  | ex k d env' => rw [q] at hq; exact hq
  | ok ds env' =>
    rw [q] at hq
    intro vs W' H' g s' r
    match ds, hq, r with
    | [.int j], hq, r =>
      dsimp only at hq
      by_cases hj : j ≤ 16777216 ∧ -16777216 ≤ j
      · rw [if_pos hj] at hq
        obtain ⟨v, r0, rfl, rfl, e2⟩ := r
        have e2 : r0 = [] := e2
        subst e2
        exact ⟨j, rfl, by omega, by omega, hq _ W' H' g s' (itOk_rng (by show j.toNat ≤ 16777216; omega))⟩
      · rw [if_neg hj] at hq
        exact hq.elim
def gRng2 (f : M (List D)) : M (List D) := fun env => match f env with
  | .ok [.int i, .int j] env' => if (j ≤ 16777216 ∧ -16777216 ≤ j) ∧ (i ≤ 16777216 ∧ -16777216 ≤ i) ∧ j - i ≤ 16777216 then .ok (ups i (j - i).toNat) env' else .bad
  | .ok _ _ => .bad
  | .bad => .bad
  | .ex c d env' => .ex c d env'
theorem it_rng2 {a b : Expr} {f : M (List D)} (h : EvA B [a, b] f) (hg : Gl B.X "range") (hm : B.X.mg "range" = none) (hs : starEach [a, b] B.X.env = [(false, eval a B.X.env), (false, eval b B.X.env)] := by rfl) (hs2 : starEach [b] B.X.env = [(false, eval b B.X.env)] := by rfl) : EvIt B tg (.Call (.Name "range" p) [a, b] [] pos) (gRng2 f) := by
  obtain ⟨t, pa, h⟩ := h
  refine ⟨_, pi_range2 hg hm pa hs hs2, fun c W H σ env R hc s hq => h c W H σ env _ hc s ?_⟩
  unfold gRng2 at hq
  cases q : f env with
  | bad => rw [q] at hq; exact hq
  | ex k d env' => rw [q] at hq; exact hq
  | ok ds env' =>
    rw [q] at hq
    intro vs W' H' g s' r
    match ds, hq, r with
    | [.int i, .int j], hq, r =>
      dsimp only at hq
      by_cases hj : (j ≤ 16777216 ∧ -16777216 ≤ j) ∧ (i ≤ 16777216 ∧ -16777216 ≤ i) ∧ j - i ≤ 16777216
      · rw [if_pos hj] at hq
        obtain ⟨v, r0, rfl, rfl, v2, r2, rfl, rfl, e2⟩ := r
        have e2 : r2 = [] := e2
        subst e2
        exact ⟨i, j, rfl, ⟨by omega, by omega, by omega, by omega⟩, hq _ W' H' g s' (itOk_rng (by show (j - i).toNat ≤ 16777216; omega))⟩
      · rw [if_neg hj] at hq
        exact hq.elim
end

/-! ### for -/
def forL (h : D → M Unit) (body : M Fl) : List D → M Fl
  | [] => lNil
  | d :: ds => fun env => match h d env with
    | .ok _ env1 => (match body env1 with
      | .ok .nx env2 => forL h body ds env2
      | .ok .ct env2 => forL h body ds env2
      | .ok .bk env2 => .ok .nx env2
      | .ok (.rt x) env2 => .ok (.rt x) env2
      | .bad => .bad
      | .ex c d env2 => .ex c d env2)
    | .bad => .bad
    | .ex c d env2 => .ex c d env2
def lFor (f : M (List D)) (h : D → M Unit) (body : M Fl) : M Fl := M.bind f (forL h body)
section
variable {B : Bx} {tg it : Expr} {pos : Pos}
theorem es_for {k : Nat} {vs : List Nat} {f : M (List D)} {h : D → M Unit} {body : List Stmt} {g : M Fl} (G : Gd B k) (hi : EvIt B tg it f) (ht : EvTg B tg vs h) (hb : EvL B body g)
    (hs : ∀ x, foldedSetIterable it B.X.env x = pure x := by intro _; rfl) : EvS B (.For tg it body [] pos) (lFor f h g) := by
  obtain ⟨wi, pi, hi⟩ := hi
  obtain ⟨gt, pg, ht⟩ := ht
  obtain ⟨tb, pb, hb⟩ := hb
  refine ⟨_, ps_for G.po G.calm pi pg pb hs, fun c W H σ env E hc s hq => hi c W H σ env _ hc s ?_⟩
  refine (Is_bind hq).imp (fun ds env1 hq J W1 H1 g1 s1 io => ?_) fun _ _ _ z => z.xp
  refine ⟨fun i m σ2 H2 => m = ds.length - i ∧ i ≤ ds.length ∧ ∃ W2 env2, Go W1 H1 W2 H2 ∧ SR B.X.K c W2 H2 σ2 env2 ∧ (forL h g (ds.drop i) env2).Is (FlOk B c W2 H2 E) (B.XS c W2 H2),
    ⟨ds.length, rfl, Nat.zero_le _, W1, env1, Go.refl, s1, hq.imp (fun _ _ z => z.go g1) fun _ _ _ z => z.go g1⟩, ?_⟩
  rintro i m σ2 H2 ⟨rfl, hle, W2, env2, g2, s2, hq2⟩
  by_cases hlt : i < ds.length
  · refine .inr ⟨io.go W2 H2 g2 i hlt, fun σ3 H3 => ∃ W3 env3, Go W1 H1 W3 H3 ∧ SR B.X.K c W3 H3 σ3 env3 ∧ (forL h g (ds.drop (i + 1)) env3).Is (FlOk B c W3 H3 E) (B.XS c W3 H3),
      fun σ' H' z => ⟨ds.length - (i + 1), by omega, rfl, hlt, z⟩, fun x H3 y => ?_⟩
    have hd : ds[i]? = some ds[i] := List.getElem?_eq_getElem hlt
    obtain ⟨yh, yr⟩ := io.yld W2 H2 g2 s2.tr i x H3 _ y hd
    obtain ⟨g3, s3⟩ := s2.yl yh
    rw [List.drop_eq_getElem_cons hlt] at hq2
    unfold forL at hq2
    refine ht c W2 H3 σ2 env2 x _ _ hc s3 yr ?_
    cases q : h ds[i] env2 with
    | bad => rw [q] at hq2; exact hq2
    | ex k d env' => rw [q] at hq2; exact hq2.go g3
    | ok u env3 =>
      rw [q] at hq2
      dsimp only at hq2
      intro σ4 W4 H4 g4 s4 _
      refine hb c W4 H4 σ4 env3 _ hc s4 ?_
      cases q2 : g env3 with
      | bad => rw [q2] at hq2; exact hq2
      | ex k d env' => rw [q2] at hq2; exact hq2.go (g3.trans g4)
      | ok fl env4 =>
        rw [q2] at hq2
        cases fl with
        | nx => exact fun σ5 W5 H5 g5 s5 => ⟨W5, env4, g2.trans (g3.trans (g4.trans g5)), s5, hq2.imp (fun _ _ z => z.go (g3.trans (g4.trans g5))) fun _ _ _ z => z.go (g3.trans (g4.trans g5))⟩
        | ct => exact fun σ5 W5 H5 g5 s5 => ⟨W5, env4, g2.trans (g3.trans (g4.trans g5)), s5, hq2.imp (fun _ _ z => z.go (g3.trans (g4.trans g5))) fun _ _ _ z => z.go (g3.trans (g4.trans g5))⟩
        | bk => exact fun σ5 W5 H5 g5 s5 => hq2 σ5 W5 H5 (g3.trans (g4.trans g5)) s5
        | rt x => exact fun v σ5 W5 H5 g5 s5 r5 => hq2 v σ5 W5 H5 (g3.trans (g4.trans g5)) s5 r5
  · have e : i = ds.length := by omega
    subst e
    rw [List.drop_length] at hq2
    exact .inl ⟨io.stop W2 H2 g2, hq2 σ2 W2 H2 Go.refl s2⟩
end
end DL
end
section
set_option maxRecDepth 100000
set_option maxHeartbeats 1000000
/-! DL11: while; comprehensions -/
namespace DL
open PySem PySem.Spec L2
open PyProof.Rows hiding St

def whileL (t : M Bool) (body : M Fl) : Nat → M Fl
  | 0 => fun _ => .bad
  | n + 1 => fun env => match t env with
    | .ok true env1 => (match body env1 with
      | .ok .nx env2 => whileL t body n env2
      | .ok .ct env2 => whileL t body n env2
      | .ok .bk env2 => .ok .nx env2
      | .ok (.rt x) env2 => .ok (.rt x) env2
      | .bad => .bad
      | .ex c d env2 => .ex c d env2)
    | .ok false env1 => .ok .nx env1
    | .bad => .bad
    | .ex c d env2 => .ex c d env2
section
variable {B : Bx} {e : Expr} {pos : Pos}
theorem es_while {k : Nat} {t : M Bool} {body : List Stmt} {g : M Fl} (fuel : Nat) (G : Gd B k) (ht : EvT B e t) (hb : EvL B body g) : EvS B (.While e body [] pos) (whileL t g fuel) := by
  obtain ⟨tt, pt, ht⟩ := ht
  obtain ⟨tb, pb, hb⟩ := hb
  refine ⟨_, ps_while G.po pt pb, fun c W H σ env E hc s hq => ?_⟩
  refine ⟨fun m σ2 H2 => ∃ W2 env2, Go W H W2 H2 ∧ SR B.X.K c W2 H2 σ2 env2 ∧ (whileL t g m env2).Is (FlOk B c W2 H2 E) (B.XS c W2 H2), ⟨fuel, W, env, Go.refl, s, hq⟩, ?_⟩
  rintro m σ2 H2 ⟨W2, env2, g2, s2, hq2⟩
  cases m with
  | zero => exact hq2.elim
  | succ m =>
    refine ht c W2 H2 σ2 env2 _ hc s2 ?_
    unfold whileL at hq2
    cases q : t env2 with
    | bad => rw [q] at hq2; exact hq2
    | ex k d env' => rw [q] at hq2; exact hq2.xp
    | ok b env3 =>
      rw [q] at hq2
      intro W3 H3 g3 s3
      cases b with
      | false =>
        rw [if_neg Bool.false_ne_true]
        exact hq2 σ2 W3 H3 g3 s3
      | true =>
        rw [if_pos rfl]
        dsimp only at hq2
        refine ⟨fun σ4 H4 => ∃ W4 env4, Go W H W4 H4 ∧ SR B.X.K c W4 H4 σ4 env4 ∧ (whileL t g m env4).Is (FlOk B c W4 H4 E) (B.XS c W4 H4), fun σ' H' z => ⟨m, Nat.lt_succ_self m, z⟩, ?_⟩
        refine hb c W3 H3 σ2 env3 _ hc s3 ?_
        cases q2 : g env3 with
        | bad => rw [q2] at hq2; exact hq2
        | ex k d env' => rw [q2] at hq2; exact hq2.go g3
        | ok fl env4 =>
          rw [q2] at hq2
          cases fl with
          | nx => exact fun σ5 W5 H5 g5 s5 => ⟨W5, env4, g2.trans (g3.trans g5), s5, hq2.imp (fun _ _ z => z.go (g3.trans g5)) fun _ _ _ z => z.go (g3.trans g5)⟩
          | ct => exact fun σ5 W5 H5 g5 s5 => ⟨W5, env4, g2.trans (g3.trans g5), s5, hq2.imp (fun _ _ z => z.go (g3.trans g5)) fun _ _ _ z => z.go (g3.trans g5)⟩
          | bk => exact fun σ5 W5 H5 g5 s5 => hq2 σ5 W5 H5 (g3.trans g5) s5
          | rt x => exact fun v σ5 W5 H5 g5 s5 r5 => hq2 v σ5 W5 H5 (g3.trans g5) s5 r5
end

/-! ### blocks -/
/-- the block of a comprehension: nothing is let out -/
abbrev Bx.blk (B : Bx) (s : Shared) (H : Hp) (scope : Scope) (C : Addr) (cl : List (Str × Addr)) (fp : List Addr) : Bx :=
  ⟨B.X.blk s H scope (compEnvC scope cl C B.X.env) fp, fun _ _ _ _ => False, B.C⟩
theorem Gd.blk {B : Bx} {k : Nat} (G : Gd B k) (s : Shared) (H : Hp) (scope : Scope) (C : Addr) (cl : List (Str × Addr)) (fp : List Addr) : Gd (B.blk s H scope C cl fp) k where
  calm := G.calm
  room := G.room
  gd := G.gd
  tk := fun u s' x => by
    obtain ⟨_, _, _, _, _, _, _, _, _, _, _, _, _, _, _, _, w⟩ := x
    exact w
  po := PassesOwn.never
  nd := G.nd
  cl := G.cl

section
variable {K : PySem.W.Frag} {c : Cl} {W : Addr → Prop} {H : Hp} {σ : St} {env : En}
/-- the slots of a block's own names: what stood there ahead, if nobody writes it -/
def fixE (env1 : En) : List Nat → En → En
  | [], e => e
  | v :: vs, e => (fixE env1 vs e).set v (match env1[v]? with
    | some (.fz d) => .fz d
    | _ => .no)
theorem fixE_length (env1 : En) : ∀ (vs : List Nat) (e : En), (fixE env1 vs e).length = e.length
  | [], _ => rfl
  | v :: vs, e => by rw [fixE, List.length_set, fixE_length env1 vs e]
theorem fixE_mut {env1 : En} : ∀ {vs : List Nat} {e : En} {j : Nat}, IsMut (fixE env1 vs e) j → IsMut e j
  | [], _, _, h => h
  | v :: vs, e, j, h => by
    obtain ⟨d, m⟩ := h
    have go : ∀ (x : Ent), (x = .ow d ∨ x = .io d) → (fixE env1 (v :: vs) e)[j]? = some x → IsMut e j := fun x hx m => by
      by_cases q : v = j
      · subst q
        exfalso
        unfold fixE at m
        by_cases hv : v < (fixE env1 vs e).length
        · rw [List.getElem?_set_self hv] at m
          have m := Option.some.inj m
          split at m
          · subst m; rcases hx with z | z <;> cases z
          · subst m; rcases hx with z | z <;> cases z
        · rw [List.getElem?_eq_none (by simpa using hv)] at m
          cases m
      · unfold fixE at m
        rw [List.getElem?_set_ne q] at m
        rcases hx with z | z
        · subst z; exact fixE_mut (vs := vs) ⟨d, .inl m⟩
        · subst z; exact fixE_mut (vs := vs) ⟨d, .inr m⟩
    rcases m with m | m
    · exact go _ (.inl rfl) m
    · exact go _ (.inr rfl) m
theorem SR.wiped (s : SR K c W H σ env) : ∀ vs : List Nat, SR K c W H (wipe σ vs) (fixE [] vs env)
  | [] => s
  | v :: vs => by
    show SR K c W H ((wipe σ vs).set v none) ((fixE [] vs env).set v .no)
    exact (SR.wiped s vs).forget none
theorem fixE_at {vs : List Nat} {e : En} {i : Nat} {x : Ent} (h : (fixE [] vs e)[i]? = some x) (n : x ≠ .no) : i ∉ vs ∧ e[i]? = some x := by
  induction vs with
  | nil => exact ⟨List.not_mem_nil, h⟩
  | cons v vs ih =>
    have h' : ((fixE [] vs e).set v .no)[i]? = some x := h
    by_cases q : v = i
    · subst q
      by_cases hv : v < (fixE [] vs e).length
      · rw [List.getElem?_set_self hv] at h'
        exact absurd (Option.some.inj h').symm n
      · rw [List.getElem?_eq_none (by simpa using hv)] at h'
        cases h'
    · rw [List.getElem?_set_ne q] at h'
      obtain ⟨h1, h2⟩ := ih h'
      exact ⟨fun m => (List.mem_cons.mp m).elim (fun z => q z.symm) h1, h2⟩
theorem wipe_at {σ : St} {i : Nat} : ∀ {vs : List Nat}, i ∉ vs → (wipe σ vs)[i]? = σ[i]?
  | [], _ => rfl
  | v :: vs, h => by
    unfold wipe
    rw [List.getElem?_set_ne fun e => h (by rw [e]; exact List.mem_cons_self ..)]
    exact wipe_at fun m => h (List.mem_cons_of_mem _ m)
/-- out of the block -/
theorem SR.restate {σ' : St} (s : SR K c W H σ' env) (hl : σ'.length = σ.length) (h : ∀ (i : Nat) x, env[i]? = some x → x ≠ .no → σ[i]? = σ'[i]?) : SR K c W H σ env where
  len := s.len.trans hl
  fz := fun i d q => by
    obtain ⟨v, h1, h2⟩ := s.fz i d q
    exact ⟨v, (h i _ q nofun).trans h1, h2⟩
  ow := fun i d q => by
    obtain ⟨v, h1, h2⟩ := s.ow i d q
    exact ⟨v, (h i _ q nofun).trans h1, h2⟩
  io := fun i d q => by
    obtain ⟨v, h1, h2⟩ := s.io i d q
    exact ⟨v, (h i _ q nofun).trans h1, h2⟩
  xc := fun i k d q => by
    obtain ⟨h1, h2⟩ := s.xc i k d q
    exact ⟨(h i _ q nofun).trans h1, h2⟩
  sep := fun i j a m1 m2 h1 h2 => by
    have m : ∀ i, IsMut env i → σ[i]? = σ'[i]? := fun i ⟨d, m⟩ => m.elim (fun m => h i _ m nofun) fun m => h i _ m nofun
    exact s.sep i j a m1 m2 ((m i m1).symm.trans h1) ((m j m2).symm.trans h2)
  tr := s.tr
  sub := s.sub
  ioW := s.ioW
  keep := s.keep
  new := s.new
/-- a slot that held a value that nobody writes holds it again -/
theorem SR.refix {env1 : En} (s : SR K c W H σ env) (h : ∀ (i : Nat) d, env1[i]? = some (.fz d) → ∃ v, At σ i v ∧ Rep K W H d v) : ∀ vs : List Nat, SR K c W H σ (fixE env1 vs env)
  | [] => s
  | v :: vs => by
    have s' := SR.refix s h vs
    show SR K c W H σ ((fixE env1 vs env).set v _)
    have dull : SR K c W H σ ((fixE env1 vs env).set v .no) := (s'.forget (i := v) none).restate (σ := σ) (by simp) fun i x hx n => by
      by_cases e : i = v
      · subst e
        by_cases hi : i < (fixE env1 vs env).length
        · rw [List.getElem?_set_self hi] at hx
          exact absurd (Option.some.inj hx).symm n
        · rw [List.getElem?_eq_none (by simpa using hi)] at hx
          cases hx
      · rw [List.getElem?_set_ne (Ne.symm e)]
    cases q : env1[v]? with
    | none => exact dull
    | some x =>
      cases x with
      | fz d =>
        obtain ⟨u, h1, h2⟩ := h v d q
        dsimp only
        by_cases hv : v < (fixE env1 vs env).length
        · have z := s'.store (i := v) (x := .fz d) (v := u) h2 hv
          have e : σ.set v (some u) = σ := by
            obtain ⟨hv, e⟩ := List.getElem?_eq_some_iff.mp h1
            rw [← e]
            exact List.set_getElem_self hv
          rw [e] at z
          exact z
        · have e : (fixE env1 vs env).set v (.fz d) = fixE env1 vs env := List.set_eq_of_length_le (by omega)
          rw [e]
          exact s'
      | no => exact dull
      | ow _ => exact dull
      | io _ => exact dull
      | xc _ _ => exact dull
/-- an object of one's own that no slot holds is written -/
theorem SR.write (s : SR K c W H σ env) {a : Addr} {o : HO} (w : W a) (nw : ¬ c.Wc a) (n : ∀ j, IsMut env j → ¬ At σ j (.ref a)) : Go W H W (upd H a o) ∧ SR K c W (upd H a o) σ env := by
  have g : Go W H W (upd H a o) := ⟨fun b u h nb => by rw [upd_ne fun e => nb (by rw [e]; exact w)]; exact h, fun b h => .inl h⟩
  obtain ⟨h0, hio⟩ := s.own0 w nw
  refine ⟨g, s.len, fun i d q => ?_, fun i d q => ?_, fun i d q => ?_, fun i k d q => ?_, s.sep, fun b wb => ?_, s.sub, s.ioW, fun b u e n' => ?_, s.new⟩
  · obtain ⟨v, h1, h2⟩ := s.fz i d q
    exact ⟨v, h1, h2.go g⟩
  · obtain ⟨b, h1, h2, h3, h4⟩ := s.ow i d q
    exact ⟨b, h1, h2, h3, h4.go g (upd_ne fun e => n i ⟨d, .inl q⟩ (e ▸ h1))⟩
  · obtain ⟨b, h1, h2, h3, h4⟩ := s.io i d q
    exact ⟨b, h1, h2, h3, h4.go g (upd_ne fun e => n i ⟨d, .inr q⟩ (e ▸ h1))⟩
  · obtain ⟨h1, h2, x, v, h3, h4, h5, h6⟩ := s.xc i k d q
    exact ⟨h1, h2, x, v, h3, g.keep _ _ h4 h5, h5, h6.go g⟩
  · by_cases q : b = a
    · rw [q, upd_same]
      exact ⟨o, rfl⟩
    · rw [upd_ne q]
      exact s.tr b wb
  · rw [upd_ne fun z => by rw [z, h0] at e; cases e]
    exact s.keep b u e n'
end

/-! ### lists by comprehension -/
/-- the turns: the target, the tests, the item -/
def lcL (h : D → M Unit) (t : M Bool) (f : M D) (vs : List Nat) : List D → List D → M (List D)
  | [], acc => fun env => .ok acc env
  | d :: ds, acc => fun env => match h d env with
    | .ok _ env1 => (match t env1 with
      | .ok true env2 => (match f env2 with
        | .ok y env3 => lcL h t f vs ds (acc ++ [y]) (fixE [] vs env3)
        | _ => .bad)
      | .ok false env2 => lcL h t f vs ds acc (fixE [] vs env2)
      | _ => .bad)
    | _ => .bad
def dLc (it : M (List D)) (h : D → M Unit) (t : M Bool) (f : M D) (vs : List Nat) : M Ent := fun env => match it env with
  | .ok ds env1 => (match lcL h t f vs ds [] (fixE [] vs env1) with
    | .ok out env2 => .ok (.ow (.list out)) (fixE env1 vs env2)
    | _ => .bad)
  | .bad => .bad
  | .ex c d env' => .ex c d env'
def EvTs (B : Bx) (es : List Expr) (f : M Bool) : Prop := ∃ t, PTs B.X es t ∧ ∀ c W H σ env Q, B.C c → SR B.X.K c W H σ env →
  (f env).Is (fun b env' => ∀ W' H', Go W H W' H' → SR B.X.K c W' H' σ env' → Q b H') (B.XP c W H σ) → t σ H Q
def yes : M Bool := fun env => .ok true env
theorem ets_nil {B : Bx} : EvTs B [] yes := ⟨_, pts_nil, fun c W H σ env Q hc s hq => hq W H Go.refl s⟩
theorem ets_one {B : Bx} {e : Expr} {t : M Bool} (h : EvT B e t) : EvTs B [e] t := by
  obtain ⟨tt, p, h⟩ := h
  exact ⟨tt, pts_one p, h⟩
theorem lcL_len {h : D → M Unit} {t : M Bool} {f : M D} {vs : List Nat} : ∀ {ds acc out : List D} {env env' : En}, lcL h t f vs ds acc env = .ok out env' → out.length ≤ acc.length + ds.length
  | [], acc, out, env, env', e => by
    cases e
    simp
  | d :: ds, acc, out, env, env', e => by
    unfold lcL at e
    cases q1 : h d env with
    | bad => rw [q1] at e; cases e
    | ex _ _ _ => rw [q1] at e; cases e
    | ok u env1 =>
      rw [q1] at e
      dsimp only at e
      cases q2 : t env1 with
      | bad => rw [q2] at e; cases e
      | ex _ _ _ => rw [q2] at e; cases e
      | ok b env2 =>
        rw [q2] at e
        cases b with
        | false =>
          have z := lcL_len e
          simp only [List.length_cons]
          omega
        | true =>
          dsimp only at e
          cases q3 : f env2 with
          | bad => rw [q3] at e; cases e
          | ex _ _ _ => rw [q3] at e; cases e
          | ok y env3 =>
            rw [q3] at e
            have z := lcL_len e
            simp only [List.length_append, List.length_cons, List.length_nil] at z ⊢
            omega
/-- the readings of a block: the same for every block -/
def canG (K : PySem.W.Frag) (C : Cl → Prop) (vs : List Nat) (h : D → M Unit) : TG := fun v σ H Q => ∃ c W env d, C c ∧ SR K c W H σ env ∧ Rep K W H d v ∧
  (h d env).Is (fun _ env' => ∀ σ' W' H', Go W H W' H' → SR K c W' H' σ' env' → Upto vs σ σ' → Q σ' H') (fun _ _ _ => False)
def canT (K : PySem.W.Frag) (C : Cl → Prop) (t : M Bool) : TT := fun σ H Q => ∃ c W env, C c ∧ SR K c W H σ env ∧ (t env).Is (fun b env' => ∀ W' H', Go W H W' H' → SR K c W' H' σ env' → Q b H') (fun _ _ _ => False)
def canE (K : PySem.W.Frag) (C : Cl → Prop) (f : M D) : TE := fun σ H Q => ∃ c W env, C c ∧ SR K c W H σ env ∧ (f env).Is (fun d env' => ∀ v W' H', Go W H W' H' → SR K c W' H' σ env' → Rep K W' H' d v → Q v H') (fun _ _ _ => False)
theorem EvTg.can {B : Bx} {tg : Expr} {vs : List Nat} {h : D → M Unit} (hh : EvTg B tg vs h) : PG B.X tg (canG B.X.K B.C vs h) := by
  obtain ⟨g, p, hh⟩ := hh
  exact ⟨fun pins s σ H x u Q I r ⟨c, W, env, d, hc, sr, rp, q⟩ => p.run pins s σ H x u Q I r (hh c W H σ env x d Q hc sr rp (q.imp (fun _ _ z => z) fun _ _ _ z => z.elim))⟩
theorem EvTs.can {B : Bx} {es : List Expr} {t : M Bool} (hh : EvTs B es t) : PTs B.X es (canT B.X.K B.C t) := by
  obtain ⟨g, p, hh⟩ := hh
  exact ⟨fun pins s σ H Q I ⟨c, W, env, hc, sr, q⟩ => p.run pins s σ H Q I (hh c W H σ env Q hc sr (q.imp (fun _ _ z => z) fun _ _ _ z => z.elim))⟩
theorem EvF.can {B : Bx} {e : Expr} {f : M D} (hh : EvF B e f) : PE B.X e (canE B.X.K B.C f) := by
  obtain ⟨g, p, hh⟩ := hh
  exact ⟨fun pins s σ H Q I ⟨c, W, env, hc, sr, q⟩ => p.run pins s σ H Q I (hh c W H σ env Q hc sr (q.imp (fun _ _ z => z) fun _ _ _ z => z.elim))⟩
theorem wipe_eq {σ σ' : St} {vs : List Nat} (h : ∀ j, j ∉ vs → σ'[j]? = (wipe σ vs)[j]?) (hl : σ'.length = σ.length) : wipe σ' vs = wipe σ vs := by
  apply List.ext_getElem?
  intro j
  by_cases q : j ∈ vs
  · have z : ∀ (τ : St), (wipe τ vs)[j]? = if j < τ.length then some none else none := fun τ => by
      cases e : (wipe τ vs)[j]? with
      | none =>
        rw [List.getElem?_eq_none_iff, wipe_length] at e
        rw [if_neg (by omega)]
      | some y =>
        have hj : j < τ.length := by
          have := (List.getElem?_eq_some_iff.mp e).1
          rwa [wipe_length] at this
        rw [if_pos hj]
        cases y with
        | none => rfl
        | some x => exact absurd q (wipe_some e).2
    rw [z, z, hl]
  · rw [wipe_at q, h j q]
theorem lc_core' {B : Bx} {vs : List Nat} {h : D → M Unit} {t : M Bool} {f : M D} {k : Nat} (G : Gd B k)
    {wi : TI} {fi : M (List D)} (hi : ∀ c W H σ env R, B.C c → SR B.X.K c W H σ env → (fi env).Is (fun ds env' => ∀ J W' H', Go W H W' H' → SR B.X.K c W' H' σ env' → ItOk B.X.K J ds W' H' → R J H') (B.XP c W H σ) → wi σ H R)
    {c : Cl} {W : Addr → Prop} {H : Hp} {σ : St} {env : En} {Q : VK} (hc : B.C c) (s : SR B.X.K c W H σ env)
    (hq : (dLc fi h t f vs env).Is (fun x env' => ∀ v W' H', Go W H W' H' → SR B.X.K c W' H' σ env' → RepE B.X.K c W' H' σ env' x v → Q v H') (B.XP c W H σ)) : tLc wi (canG B.X.K B.C vs h) (canT B.X.K B.C t) (canE B.X.K B.C f) vs σ H Q := by
  refine hi c W H σ env _ hc s ?_
  unfold dLc at hq
  cases q : fi env with
  | bad => rw [q] at hq; exact hq
  | ex k d env' => rw [q] at hq; exact hq
  | ok ds env1 =>
    rw [q] at hq
    dsimp only at hq
    intro J W1 H1 g1 s1 io A hA
    cases q2 : lcL h t f vs ds [] (fixE [] vs env1) with
    | bad => rw [q2] at hq; exact hq.elim
    | ex _ _ _ => rw [q2] at hq; exact hq.elim
    | ok out envE =>
      rw [q2] at hq
      dsimp only at hq
      have lenO : out.length ≤ sizeLine := Nat.le_trans (by simpa using lcL_len q2) io.le
      have nA1 : ¬ W1 A := s1.nw hA
      have gA : Go W1 H1 (plus W1 A) (upd H1 A (.lst [])) := go_own s1 hA
      -- what holds between the turns
      let Pv : Nat → Hp → Prop := fun i H2 => ∃ W2 env2 acc us, Go (plus W1 A) (upd H1 A (.lst [])) W2 H2 ∧ SR B.X.K c W2 H2 (wipe σ vs) env2 ∧ W2 A ∧ ¬ c.Wc A ∧ H2 A = some (.lst us) ∧ RepL B.X.K W2 H2 acc us ∧ acc.length ≤ i ∧
          (∀ j, IsMut env2 j → ¬ At (wipe σ vs) j (.ref A)) ∧ (∀ j x, env2[j]? = some x → x ≠ .no → j ∉ vs) ∧ lcL h t f vs (ds.drop i) acc env2 = .ok out envE
      refine ⟨fun i m H2 => m = ds.length - i ∧ i ≤ ds.length ∧ Pv i H2, ?_, ?_⟩
      · have s2 : SR B.X.K c (plus W1 A) (upd H1 A (.lst [])) σ env1 := s1.own_ hA
        refine ⟨ds.length, rfl, Nat.zero_le _, plus W1 A, fixE [] vs env1, [], [], Go.refl, s2.wiped vs, .inr rfl, fun z => nA1 (s1.sub A z), upd_same, rfl, Nat.le_refl _, fun j m hj => ?_, fun j x hx n => (fixE_at hx n).1, q2⟩
        have mj : IsMut env1 j ∧ j ∉ vs := by
          obtain ⟨d, m⟩ := m
          rcases m with m | m
          · obtain ⟨h1, h2⟩ := fixE_at m nofun
            exact ⟨⟨d, .inl h2⟩, h1⟩
          · obtain ⟨h1, h2⟩ := fixE_at m nofun
            exact ⟨⟨d, .inr h2⟩, h1⟩
        have hj' : At σ j (.ref A) := by
          have hj : (wipe σ vs)[j]? = _ := hj
          rw [wipe_at mj.2] at hj
          exact hj
        obtain ⟨d, m | m⟩ := mj.1
        · obtain ⟨a, z1, z2, _⟩ := s1.ow j d m
          have e : some (some (V.ref a)) = some (some (V.ref A)) := z1.symm.trans hj'
          cases e
          exact nA1 z2
        · obtain ⟨a, z1, z2, _⟩ := s1.io j d m
          have e : some (some (V.ref a)) = some (some (V.ref A)) := z1.symm.trans hj'
          cases e
          exact nA1 z2
      rintro i m H2 ⟨rfl, hle, W2, env2, acc, us, g2, s2, wA, nwA, hA2, ra, la, nA, nv, hr⟩
      have g02 : Go W1 H1 W2 H2 := gA.trans g2
      obtain ⟨h0, hio⟩ := s2.own0 wA nwA
      by_cases hlt : i < ds.length
      · refine .inr ⟨io.go W2 H2 g02 i hlt, Pv (i + 1), fun H' z => ⟨ds.length - (i + 1), by omega, rfl, hlt, z⟩, fun x H3 y => ?_⟩
        have hd : ds[i]? = some ds[i] := List.getElem?_eq_getElem hlt
        obtain ⟨yh, yr⟩ := io.yld W2 H2 g02 s2.tr i x H3 _ y hd
        obtain ⟨g3, s3⟩ := s2.yl yh
        have hA3 : H3 A = some (.lst us) := by
          rcases yh with rfl | ⟨T, o, n, rfl⟩
          · exact hA2
          · rw [upd_ne (ne_of_none hA2 n)]
            exact hA2
        have sh : SR B.X.K (c.hold A (.lst us)) W2 H3 (wipe σ vs) env2 := s3.hold wA hA3 nA
        have hch : B.C (c.hold A (.lst us)) := G.cl c A _ hc
        rw [List.drop_eq_getElem_cons hlt] at hr
        unfold lcL at hr
        -- the turn's end
        have fin : ∀ {W5 : Addr → Prop} {H5 : Hp} {σ5 : St} {env5 : En}, Go W2 H2 W5 H5 → SR B.X.K (c.hold A (.lst us)) W5 H5 σ5 env5 → wipe σ5 vs = wipe σ vs →
            SR B.X.K c W5 H5 (wipe σ vs) (fixE [] vs env5) ∧ W5 A ∧ H5 A = some (.lst us) ∧ RepL B.X.K W5 H5 acc us ∧ (∀ j, IsMut (fixE [] vs env5) j → ¬ At (wipe σ vs) j (.ref A)) ∧ ∀ j x, (fixE [] vs env5)[j]? = some x → x ≠ .no → j ∉ vs := fun {W5 H5 σ5 env5} g5 s5 e5 => by
          have s6 := s5.wiped vs
          rw [e5] at s6
          obtain ⟨s7, w7, a7, n7⟩ := s6.unhold nwA h0 hio
          exact ⟨s7, w7, a7, ra.go g5, n7, fun j x hx n => (fixE_at hx n).1⟩
        refine ⟨_, W2, env2, ds[i], hch, sh, yr, ?_⟩
        cases q3 : h ds[i] env2 with
        | bad => rw [q3] at hr; cases hr
        | ex _ _ _ => rw [q3] at hr; cases hr
        | ok u env3 =>
          rw [q3] at hr
          dsimp only at hr
          intro σ4 W4 H4 g4 s4 hσ4
          have e4 : wipe σ4 vs = wipe σ vs := wipe_eq hσ4.at_ (by rw [hσ4.len, wipe_length])
          refine ⟨e4, _, W4, env3, hch, s4, ?_⟩
          cases q4 : t env3 with
          | bad => rw [q4] at hr; cases hr
          | ex _ _ _ => rw [q4] at hr; cases hr
          | ok bt env4 =>
            rw [q4] at hr
            intro W5 H5 g5 s5
            cases bt with
            | false =>
              rw [if_neg Bool.false_ne_true]
              dsimp only at hr
              obtain ⟨s6, w6, a6, r6, n6, v6⟩ := fin (g3.trans (g4.trans g5)) s5 e4
              exact ⟨W5, fixE [] vs env4, acc, us, g2.trans (g3.trans (g4.trans g5)), s6, w6, nwA, a6, r6, Nat.le_succ_of_le la, n6, v6, hr⟩
            | true =>
              rw [if_pos rfl]
              dsimp only at hr
              refine ⟨_, W5, env4, hch, s5, ?_⟩
              cases q5 : f env4 with
              | bad => rw [q5] at hr; cases hr
              | ex _ _ _ => rw [q5] at hr; cases hr
              | ok y env5 =>
                rw [q5] at hr
                dsimp only at hr
                intro v W6 H6 g6 s6 r6
                obtain ⟨s7, w7, a7, r7, n7, v7⟩ := fin (g3.trans (g4.trans (g5.trans g6))) s6 e4
                obtain ⟨g8, s8⟩ := s7.write (o := .lst (us ++ [v])) w7 nwA n7
                refine ⟨us, a7, ?_, ?_⟩
                · rw [ra.length]
                  exact Nat.lt_of_le_of_lt la (Nat.lt_of_lt_of_le hlt io.le)
                · exact ⟨W6, fixE [] vs env5, acc ++ [y], us ++ [v], g2.trans (g3.trans (g4.trans (g5.trans (g6.trans g8)))), s8, w7, nwA, upd_same, (r7.snoc r6).go g8, by simp only [List.length_append, List.length_cons, List.length_nil]; omega, n7, v7, hr⟩
      · have e : i = ds.length := by omega
        subst e
        rw [List.drop_length] at hr
        have e2 : acc = out ∧ env2 = envE := by
          unfold lcL at hr
          cases hr
          exact ⟨rfl, rfl⟩
        obtain ⟨e2, e3⟩ := e2
        subst e2 e3
        refine .inl ⟨io.stop W2 H2 g02, ?_⟩
        have s9 : SR B.X.K c W2 H2 σ env2 := s2.restate (by rw [wipe_length]) fun j x hx n => (wipe_at (nv j x hx n)).symm
        have s10 : SR B.X.K c W2 H2 σ (fixE env1 vs env2) := s9.refix (env1 := env1) (fun j d q => by
          obtain ⟨v, z1, z2⟩ := s1.fz j d q
          exact ⟨v, z1, z2.go g02⟩) vs
        refine hq _ W2 H2 (g1.trans g02) s10 ⟨A, rfl, wA, nwA, ⟨us, hA2, ra, lenO⟩, fun j m hj => ?_⟩
        have m2 := fixE_mut m
        have nj : j ∉ vs := m2.elim fun d z => z.elim (fun z => nv j _ z nofun) fun z => nv j _ z nofun
        refine nA j m2 ?_
        show (wipe σ vs)[j]? = _
        rw [wipe_at nj]
        exact hj
section
variable {B : Bx} {elt tg it : Expr} {ifs : List Expr} {scope : Scope} {own : List (Str × Nat)} {pos : Pos} {fi : M (List D)} {h : D → M Unit} {t : M Bool} {f : M D} {k : Nat}
theorem eo_lc (G : Gd B k) (hi : EvIt B tg it fi) (ok : blkC B.X.N B.X.env.scope scope own = true)
    (hg : ∀ s H C cl fp, EvTg (B.blk s H scope C cl fp) tg (own.map (·.2)) h) (ht : ∀ s H C cl fp, EvTs (B.blk s H scope C cl fp) ifs t) (he : ∀ s H C cl fp, EvF (B.blk s H scope C cl fp) elt f)
    (hs : ∀ x, foldedSetIterable it B.X.env x = pure x := by intro _; rfl) : EvO B (.ListComp elt [⟨tg, it, ifs, 0⟩] scope pos) (dLc fi h t f (own.map (·.2))) := by
  obtain ⟨wi, pi, hi⟩ := hi
  exact ⟨_, pe_lc (g := canG B.X.K B.C (own.map (·.2)) h) (tt := canT B.X.K B.C t) (te := canE B.X.K B.C f) G.calm G.nd pi (blkOk_by ok) (fun s H C cl fp => (hg s H C cl fp).can) (fun s H C cl fp => (ht s H C cl fp).can) (fun s H C cl fp => (he s H C cl fp).can) hs,
    fun c W H σ env Q hc s hq => lc_core' G hi hc s hq⟩
theorem es_setLc {i : Nat} {y : Str} {py spos : Pos} (G : Gd B k) (hi : EvIt B tg it fi) (ok : blkC B.X.N B.X.env.scope scope own = true)
    (hg : ∀ s H C cl fp, EvTg (B.blk s H scope C cl fp) tg (own.map (·.2)) h) (ht : ∀ s H C cl fp, EvTs (B.blk s H scope C cl fp) ifs t) (he : ∀ s H C cl fp, EvF (B.blk s H scope C cl fp) elt f)
    (hs : ∀ x, foldedSetIterable it B.X.env x = pure x := by intro _; rfl) (hy : B.X.N[i]? = some y := by rfl) (hyl : B.X.env.scope.names.lookup y = some .local := by rfl)
    (hsw : swapsWith (.ListComp elt [⟨tg, it, ifs, 0⟩] scope pos) (some (.Name y py)) spos.line B.X.env = pure true := by exact sw_true rfl rfl rfl rfl) :
    EvS B (.Assign [.Name y py] (.ListComp elt [⟨tg, it, ifs, 0⟩] scope pos) spos) (lSet i (dLc fi h t f (own.map (·.2)))) := by
  obtain ⟨wi, pi, hi⟩ := hi
  refine ⟨_, ps_setLc (g := canG B.X.K B.C (own.map (·.2)) h) (tt := canT B.X.K B.C t) (te := canE B.X.K B.C f) G.calm G.nd hy hyl hsw pi (blkOk_by ok) (fun s H C cl fp => (hg s H C cl fp).can) (fun s H C cl fp => (ht s H C cl fp).can) (fun s H C cl fp => (he s H C cl fp).can) hs,
    fun c W H σ env E hc s hq => ?_⟩
  refine lc_core' (Q := fun x H1 => gName i x σ H1 E.nx) G hi hc s ?_
  unfold lSet at hq
  cases q : dLc fi h t f (own.map (·.2)) env with
  | bad => rw [q] at hq; exact hq
  | ex k d env' => rw [q] at hq; exact hq.xp
  | ok x env' =>
    rw [q] at hq
    dsimp only at hq
    by_cases hl : i < env'.length
    · rw [if_pos hl] at hq
      exact fun v W' H' g s' r => hq _ W' H' g (s'.store r hl)
    · rw [if_neg hl] at hq
      exact hq.elim
end
end DL
end
section
set_option maxRecDepth 100000
set_option maxHeartbeats 1000000
/-! DL12: methods of lists, stores by index, more than one value at a time, op= -/
namespace DL
open PySem PySem.Spec L2
open PyProof.Rows hiding St

def ownL : Option Ent → Option (List D)
  | some (.ow (.list xs)) => some xs
  | some (.io (.list xs)) => some xs
  | _ => none
section
variable {K : PySem.W.Frag} {c : Cl} {W W' : Addr → Prop} {H H' : Hp} {σ : St} {env : En}
theorem SR.ownL (s : SR K c W H σ env) {i : Nat} {xs : List D} (h : ownL env[i]? = some xs) : ∃ a vs, At σ i (.ref a) ∧ IsMut env i ∧ W a ∧ H a = some (.lst vs) ∧ RepL K W H xs vs ∧ xs.length ≤ sizeLine := by
  cases q : env[i]? with
  | none => rw [q] at h; cases h
  | some x =>
    rw [q] at h
    cases x with
    | ow d =>
      cases d with
      | list ys =>
        cases h
        obtain ⟨a, h1, h2, _, vs, h3, h4, h5⟩ := s.ow i _ q
        exact ⟨a, vs, h1, ⟨_, .inl q⟩, h2, h3, h4, h5⟩
      | _ => cases h
    | io d =>
      cases d with
      | list ys =>
        cases h
        obtain ⟨a, h1, h2, _, vs, h3, h4, h5⟩ := s.io i _ q
        exact ⟨a, vs, h1, ⟨_, .inr q⟩, h2, h3, h4, h5⟩
      | _ => cases h
    | no => cases h
    | fz _ => cases h
    | xc _ _ => cases h
/-- a list in a slot is written -/
theorem SR.putL (s : SR K c W H σ env) {i : Nat} {xs ys : List D} {a : Addr} {vs us : List V} (hm : IsMut env i) (ha : At σ i (.ref a)) (w : W a) (hH : H a = some (.lst vs)) (r : RepL K W H ys us) (z : ys.length ≤ sizeLine) :
    Go W H W (upd H a (.lst us)) ∧ SR K c W (upd H a (.lst us)) σ (putOut (some i) (.list ys) env) := by
  have g : Go W H W (upd H a (.lst us)) := ⟨fun b u h nb => by rw [upd_ne fun e => nb (by rw [e]; exact w)]; exact h, fun b h => .inl h⟩
  refine s.back (ia := some a) (slot := some i) (out := .list ys) ⟨fun b o h n => ?_, fun b h => .inl h, fun b h => h, fun b wb => ?_⟩ (fun b e => ?_) ⟨hm, ha⟩
  · rw [upd_ne fun e => n (by rw [e])]
    exact h
  · by_cases q : b = a
    · rw [q, upd_same]; exact ⟨_, rfl⟩
    · rw [upd_ne q]; exact s.tr b wb
  · cases e
    exact ⟨us, upd_same, r.go g, z⟩
theorem putOut_len {slot : Option Nat} {out : D} : (putOut slot out env).length = env.length := by
  unfold putOut
  cases slot with
  | none => rfl
  | some j =>
    dsimp only
    cases q : env[j]? with
    | none => rfl
    | some y => cases y <;> simp
end

/-! ### methods that write a list -/
abbrev MF := List D → List D → Option (D × List D)
structure MfOk (X : Cx) (id : String) (mf : MF) : Prop where
  ok : ∃ r, MtR X id r ∧ ∀ {W : Addr → Prop} {H : Hp} {l : Addr} {vs us : List V} {xs args : List D} {x : D} {ys : List D}, H l = some (.lst vs) → W l → RepL X.K W H xs vs → xs.length ≤ sizeLine → RepL X.K W H args us → mf xs args = some (x, ys) →
    ∃ v ws, Rep X.K W H x v ∧ RepL X.K W H ys ws ∧ ys.length ≤ sizeLine ∧ ∀ Q : VK, Q v (upd H l (.lst ws)) → r (.ref l) us H Q
def appendF : MF
  | xs, [y] => if fits (xs.length + 1) then some (.none, xs ++ [y]) else none
  | _, _ => none
def extendF : MF
  | xs, [.list ys] => if fits (xs.length + ys.length) then some (.none, xs ++ ys) else none
  | _, _ => none
def popF : MF
  | xs, [] => (xs[xs.length - 1]?).map fun y => (y, xs.dropLast)
  | _, _ => none
def popAtF : MF
  | xs, [.int i] => if decide (-(2 ^ 63) ≤ i) && decide (i < 2 ^ 63) then (match seqIndex? i xs.length with
    | some k => (xs[k]?).map fun y => (y, xs.eraseIdx k)
    | none => none) else none
  | _, _ => none
def insertF : MF
  | xs, [.int i, y] => if fits (xs.length + 1) && (decide (0 ≤ i) && decide (i < 2 ^ 63)) then some (.none, xs.take i.toNat ++ [y] ++ xs.drop i.toNat) else none
  | _, _ => none
def reverseF : MF
  | xs, [] => some (.none, xs.reverse)
  | _, _ => none
section
variable {X : Cx}
/-- l.extend(b), b any list that is read -/
theorem mt_extendX : MtR X "list.extend" (fun x vs H Q => ∃ l b xs zs, x = .ref l ∧ vs = [.ref b] ∧ H l = some (.lst xs) ∧ SqX X.K H b zs ∧ xs.length + zs.length ≤ sizeLine ∧ Q .non (upd H l (.lst (xs ++ zs)))) := by
  rintro pins s σ H x vs v us Q I rx rv ⟨l, b, xs, zs, rfl, rfl, hH, hB, hz, q⟩
  cases rx
  obtain ⟨u, rfl, ru⟩ := rv.one
  cases ru
  obtain ⟨z, its, n, r, hl, e⟩ := I.lstM hH
  obtain ⟨its2, n2, r2, hl2, z2, e2⟩ := lstX I hB
  have hsz : its.toArray.size + its2.toArray.size ≤ sizeLine := by rw [List.size_toArray, List.size_toArray]; omega
  have hlong : ¬ (!its.toArray.isEmpty && Builtin.List.listTooLong (its.toArray.size + its2.toArray.size)) = true := by
    rw [notLongL hsz, Bool.and_false]
    exact Bool.false_ne_true
  refine call_meets F.slot_list_extend ⟨_, e, rfl⟩ F.entry_list_extend (F.args_list_extend_2 _ _)
    (AutoSeq1.list_extend_list_list_0 l its.toArray n b its2.toArray n2 hlong (by rw [List.size_toArray]; omega) (by omega)) ⟨e, e2, ?_⟩
  refine ⟨.non, _, I.lset (its' := its ++ its2) hH e (by simp) (r.append r2) ?_, rfl, q⟩
  rw [List.length_append]
  omega
theorem RepL.one {K : PySem.W.Frag} {W : Addr → Prop} {H : Hp} {d : D} {us : List V} (h : RepL K W H [d] us) : ∃ v, us = [v] ∧ Rep K W H d v := by
  obtain ⟨v, r, rfl, h1, h2⟩ := h
  exact ⟨v, by rw [show r = [] from h2], h1⟩
theorem RepL.nil_ {K : PySem.W.Frag} {W : Addr → Prop} {H : Hp} {us : List V} (h : RepL K W H [] us) : us = [] := h
theorem m_append : MfOk X "list.append" appendF := by
  refine ⟨rAppend, mt_append, fun {W H l vs us xs args x ys} h w r z ra e => ?_⟩
  cases args with
  | nil => cases e
  | cons y args =>
    cases args with
    | nil =>
      obtain ⟨v, rfl, rv⟩ := ra.one
      obtain ⟨h1, h2⟩ := ite_some (a := ((.none, xs ++ [y]) : D × List D)) e
      cases h2
      have := fits_ok h1
      exact ⟨.non, vs ++ [v], rfl, r.snoc rv, by simpa using this, fun Q q => ⟨l, vs, v, rfl, rfl, h, by rw [r.length]; omega, q⟩⟩
    | cons _ _ => cases e
theorem m_extend : MfOk X "list.extend" extendF := by
  refine ⟨_, mt_extendX, fun {W H l vs us xs args x ys} h w r z ra e => ?_⟩
  cases args with
  | nil => cases e
  | cons y args =>
    cases args with
    | nil =>
      obtain ⟨v, rfl, rv⟩ := ra.one
      cases y with
      | list zs =>
        obtain ⟨h1, h2⟩ := ite_some (a := ((.none, xs ++ zs) : D × List D)) e
        cases h2
        have hf := fits_ok h1
        obtain ⟨b, ws, rfl, q1, q2, _⟩ := rv
        exact ⟨.non, vs ++ ws, rfl, r.append q2, by simpa using hf, fun Q q => ⟨l, b, vs, ws, rfl, rfl, h, q1.sx, by rw [r.length, q2.length]; exact hf, q⟩⟩
      | _ => cases e
    | cons _ _ => cases y <;> cases e
theorem RepL.dropLast {K : PySem.W.Frag} {W : Addr → Prop} {H : Hp} {ds : List D} {vs : List V} (h : RepL K W H ds vs) : RepL K W H ds.dropLast vs.dropLast := by
  rw [List.dropLast_eq_take, List.dropLast_eq_take, h.length]
  exact h.take _
theorem m_pop : MfOk X "list.pop" popF := by
  refine ⟨rPop, mt_pop, fun {W H l vs us xs args x ys} h w r z ra e => ?_⟩
  cases args with
  | nil =>
    rw [ra.nil_]
    cases q : xs[xs.length - 1]? with
    | none => rw [popF, q] at e; cases e
    | some y =>
      rw [popF, q] at e
      cases e
      obtain ⟨v, h1, h2⟩ := r.get q
      exact ⟨v, vs.dropLast, h2, r.dropLast, by rw [List.length_dropLast]; omega, fun Q q => ⟨l, vs, v, rfl, rfl, h, by rw [r.length]; exact h1, q⟩⟩
  | cons _ _ => cases e
theorem m_popAt : MfOk X "list.pop" popAtF := by
  refine ⟨rPopAt, mt_popAt, fun {W H l vs us xs args x ys} h w r z ra e => ?_⟩
  cases args with
  | nil => cases e
  | cons y args =>
    cases args with
    | nil =>
      obtain ⟨v, rfl, rv⟩ := ra.one
      cases y with
      | int i =>
        unfold popAtF at e
        dsimp only at e
        split at e
        · rename_i hb
          simp only [Bool.and_eq_true, decide_eq_true_eq] at hb
          cases q : seqIndex? i xs.length with
          | none => rw [q] at e; cases e
          | some k =>
            rw [q] at e
            dsimp only at e
            cases q2 : xs[k]? with
            | none => rw [q2] at e; cases e
            | some y =>
              rw [q2] at e
              cases e
              obtain ⟨u, h1, h2⟩ := r.get q2
              cases (show v = V.int i from rv)
              exact ⟨u, vs.eraseIdx k, h2, r.eraseIdx k, Nat.le_trans (len_erase xs k) z, fun Q qq => ⟨l, vs, i, k, u, rfl, rfl, h, hb.1, hb.2, by rw [r.length]; exact q, h1, qq⟩⟩
        · cases e
      | _ => cases e
    | cons _ _ => cases y <;> cases e
theorem m_insert : MfOk X "list.insert" insertF := by
  refine ⟨_, mt_insert, fun {W H l vs us xs args x ys} h w r z ra e => ?_⟩
  cases args with
  | nil => cases e
  | cons a args =>
    cases args with
    | nil => cases a <;> cases e
    | cons y args =>
      cases args with
      | nil =>
        obtain ⟨v, r0, rfl, rv, ry⟩ := ra
        obtain ⟨u, rfl, ru⟩ := RepL.one ry
        cases a with
        | int i =>
          obtain ⟨h1, h2⟩ := ite_some (a := ((.none, xs.take i.toNat ++ [y] ++ xs.drop i.toNat) : D × List D)) e
          cases h2
          simp only [Bool.and_eq_true, decide_eq_true_eq] at h1
          have hf := fits_ok h1.1
          cases (show v = V.int i from rv)
          refine ⟨.non, vs.take i.toNat ++ [u] ++ vs.drop i.toNat, rfl, ((r.take _).snoc ru).append (r.drop _), ?_, fun Q q => ⟨l, vs, i, u, rfl, rfl, h, by rw [r.length]; omega, h1.2.1, h1.2.2, q⟩⟩
          simp only [List.length_append, List.length_take, List.length_drop, List.length_cons, List.length_nil]
          omega
        | _ => cases e
      | cons _ _ => cases a <;> cases e
theorem m_reverse : MfOk X "list.reverse" reverseF := by
  refine ⟨rReverse, mt_reverse, fun {W H l vs us xs args x ys} h w r z ra e => ?_⟩
  cases args with
  | nil =>
    rw [ra.nil_]
    cases e
    exact ⟨.non, vs.reverse, rfl, r.reverse, by rw [List.length_reverse]; exact z, fun Q q => ⟨l, vs, rfl, rfl, h, q⟩⟩
  | cons _ _ => cases e
end
def dMeth (mf : MF) (p : M Pl) (f : M (List D)) : M Ent := fun env => match p env with
  | .ok (.s i) env1 => (match ownL env1[i]? with
    | some _ => (match f env1 with
      | .ok args env2 => (match ownL env2[i]? with
        | some xs => (match mf xs args with
          | some (x, ys) => .ok (.fz x) (putOut (some i) (.list ys) env2)
          | none => .bad)
        | none => .bad)
      | .bad => .bad
      | .ex c d env' => .ex c d env')
    | none => .bad)
  | .ok _ _ => .bad
  | .bad => .bad
  | .ex c d env' => .ex c d env'
section
variable {B : Bx} {o e : Expr} {es : List Expr} {name : Str} {apos cpos : Pos} {id : String}
theorem meth_core {mf : MF} {p : M Pl} {f : M (List D)} {to : TE} {t : TA} {r : V → List V → Hp → VK → Prop}
    (ho : ∀ c W H σ env Q, B.C c → SR B.X.K c W H σ env → (p env).Is (fun p env' => ∀ v W' H', Go W H W' H' → SR B.X.K c W' H' σ env' → RepP B.X.K W' H' σ p v → Q v H') (B.XP c W H σ) → to σ H Q)
    (ha : ∀ c W H σ env Q, B.C c → SR B.X.K c W H σ env → (f env).Is (fun ds env' => ∀ vs W' H', Go W H W' H' → SR B.X.K c W' H' σ env' → RepL B.X.K W' H' ds vs → Q vs H') (B.XP c W H σ) → t σ H Q)
    (hr : ∀ {W : Addr → Prop} {H : Hp} {l : Addr} {vs us : List V} {xs args : List D} {x : D} {ys : List D}, H l = some (.lst vs) → W l → RepL B.X.K W H xs vs → xs.length ≤ sizeLine → RepL B.X.K W H args us → mf xs args = some (x, ys) →
      ∃ v ws, Rep B.X.K W H x v ∧ RepL B.X.K W H ys ws ∧ ys.length ≤ sizeLine ∧ ∀ Q : VK, Q v (upd H l (.lst ws)) → r (.ref l) us H Q)
    {c : Cl} {W : Addr → Prop} {H : Hp} {σ : St} {env : En} {Q : VK} (hc : B.C c) (s : SR B.X.K c W H σ env)
    (hq : (dMeth mf p f env).Is (fun x env' => ∀ v W' H', Go W H W' H' → SR B.X.K c W' H' σ env' → RepE B.X.K c W' H' σ env' x v → Q v H') (B.XP c W H σ)) :
    to σ H fun x H1 => tyV B.X.K "list" x H1 ∧ t σ H1 fun xs H2 => r x xs H2 Q := by
  refine ho c W H σ env _ hc s ?_
  unfold dMeth at hq
  cases q : p env with
  | bad => rw [q] at hq; exact hq
  | ex k d env' => rw [q] at hq; exact hq
  | ok pl env1 =>
    rw [q] at hq
    cases pl with
    | v d => exact hq.elim
    | s i =>
      dsimp only at hq
      cases q1 : ownL env1[i]? with
      | none => rw [q1] at hq; exact hq.elim
      | some xs0 =>
        rw [q1] at hq
        dsimp only at hq
        intro v W1 H1 g1 s1 rp
        have rp : At σ i v := rp
        obtain ⟨a, vs0, h1, _, _, h2, _⟩ := s1.ownL q1
        have e : some (some v) = some (some (V.ref a)) := rp.symm.trans h1
        cases e
        refine ⟨.inl ⟨rfl, vs0, .inl (.inl h2)⟩, ha c W1 H1 σ env1 _ hc s1 ?_⟩
        cases q2 : f env1 with
        | bad => rw [q2] at hq; exact hq
        | ex k d env' => rw [q2] at hq; exact fun cls dx W' H' g' => hq cls dx W' H' (g1.trans g')
        | ok args env2 =>
          rw [q2] at hq
          dsimp only at hq
          cases q3 : ownL env2[i]? with
          | none => rw [q3] at hq; exact hq.elim
          | some xs =>
            rw [q3] at hq
            dsimp only at hq
            cases q4 : mf xs args with
            | none => rw [q4] at hq; exact hq.elim
            | some xy =>
              obtain ⟨x, ys⟩ := xy
              rw [q4] at hq
              intro us W2 H2 g2 s2 ra
              obtain ⟨a', vs, h3, hm, w, h4, h5, h6⟩ := s2.ownL q3
              have e : some (some (V.ref a)) = some (some (V.ref a')) := h1.symm.trans h3
              cases e
              obtain ⟨u, ws, r1, r2, r3, r4⟩ := hr h4 w h5 h6 ra q4
              obtain ⟨g3, s3⟩ := s2.putL (xs := xs) hm h3 w h4 r2 r3
              exact r4 Q (hq u W2 _ (g1.trans (g2.trans g3)) s3 (r1.go g3))
theorem eo_meth {mf : MF} {p : M Pl} {f : M (List D)} (hm : MfOk B.X id mf) (slot : Slot "list" name id) (ho : EvB B o p) (ha : EvA B (e :: es) f) (hty : typeOf (.builtin id) = pure (.type "method_descriptor") := by rfl)
    (hbase : attributeBase o name B.X.env (eval o B.X.env) = eval o B.X.env := by rfl)
    (hfew : ((backTo cpos (starEach (e :: es) B.X.env)).all (fun x => !x.1) && (backToKw cpos (keywordEach [] B.X.env)).all (fun x => x.1.isSome)
      && decide ((e :: es).length + ([] : List Keyword).length + (if ([] : List Keyword).isEmpty then 0 else 1) < 30)) = true := by rfl)
    (hline : (apos.endLine == cpos.line) = true := by rfl) (hs : starEach (e :: es) B.X.env = (false, eval e B.X.env) :: starEach es B.X.env := by rfl) (hplain : (backTo cpos (starEach es B.X.env)).any (·.1) = false := by rfl) :
    EvO B (.Call (.Attribute o name apos) (e :: es) [] cpos) (dMeth mf p f) := by
  obtain ⟨to, po, ho⟩ := ho
  obtain ⟨t, pa, ha⟩ := ha
  obtain ⟨r, hr, hr2⟩ := hm.ok
  exact ⟨_, pe_bm PySem.F.plainAttrs_list slot hty hr po pa hbase hfew hline hs hplain, fun c W H σ env Q hc s hq => meth_core ho ha hr2 hc s hq⟩
def aNil : M (List D) := fun env => .ok [] env
theorem eo_meth0 {mf : MF} {p : M Pl} (hm : MfOk B.X id mf) (slot : Slot "list" name id) (ho : EvB B o p) (hty : typeOf (.builtin id) = pure (.type "method_descriptor") := by rfl)
    (hbase : attributeBase o name B.X.env (eval o B.X.env) = eval o B.X.env := by rfl) (hline : (apos.endLine == cpos.line) = true := by rfl) :
    EvO B (.Call (.Attribute o name apos) [] [] cpos) (dMeth mf p aNil) := by
  obtain ⟨to, po, ho⟩ := ho
  obtain ⟨r, hr, hr2⟩ := hm.ok
  exact ⟨_, pe_bm0 PySem.F.plainAttrs_list slot hty hr po hbase hline, fun c W H σ env Q hc s hq => meth_core (t := fun σ H Q => Q [] H) (f := aNil) ho (fun c W H σ env Q hc s hq => hq [] W H Go.refl s rfl) hr2 hc s hq⟩
end

/-! ### o[i] = .. -/
def tSub (p : M Pl) (f : M D) : D → M Unit := fun d env => match p env with
  | .ok (.s j) env1 => (match f env1 with
    | .ok (.int k) env2 => (match ownL env2[j]? with
      | some xs => (match ixN xs.length k with
        | some m => .ok () (putOut (some j) (.list (xs.set m d)) env2)
        | none => .bad)
      | none => .bad)
    | .ok _ _ => .bad
    | .bad => .bad
    | .ex c d env' => .ex c d env')
  | .ok _ _ => .bad
  | .bad => .bad
  | .ex c d env' => .ex c d env'
section
variable {B : Bx} {o i : Expr} {pos : Pos}
theorem tg_sub {p : M Pl} {f : M D} (ho : EvB B o p) (hi : EvF B i f)
    (ha : ∀ v, assign (.Subscript o i pos) B.X.env v = (do
      let ov ← holding [v] (eval o B.X.env)
      let iv ← holding [v, ov] (eval i B.X.env)
      standAt pos
      holding [v, ov, iv] (setItem ov iv v)
      release [v, ov, iv] []) := by intro _; rfl) : EvTg B (.Subscript o i pos) [] (tSub p f) := by
  obtain ⟨to, po, ho⟩ := ho
  obtain ⟨ti, pi, hi⟩ := hi
  refine ⟨_, pg_sub po pi set_list ha, fun c W H σ env v d Q hc s r hq => ho c W H σ env _ hc s ?_⟩
  unfold tSub at hq
  cases q : p env with
  | bad => rw [q] at hq; exact hq
  | ex k d env' => rw [q] at hq; exact hq.xp
  | ok pl env1 =>
    rw [q] at hq
    cases pl with
    | v d => exact hq.elim
    | s j =>
      dsimp only at hq
      intro ov W1 H1 g1 s1 rp
      have rp : At σ j ov := rp
      refine hi c W1 H1 σ env1 _ hc s1 ?_
      cases q2 : f env1 with
      | bad => rw [q2] at hq; exact hq
      | ex k d env' => rw [q2] at hq; exact (hq.go g1).xp
      | ok x env2 =>
        rw [q2] at hq
        intro iv W2 H2 g2 s2 ri
        cases x with
        | int k =>
          dsimp only at hq
          cases q3 : ownL env2[j]? with
          | none => rw [q3] at hq; exact hq.elim
          | some xs =>
            rw [q3] at hq
            dsimp only at hq
            cases q4 : ixN xs.length k with
            | none => rw [q4] at hq; exact hq.elim
            | some m =>
              rw [q4] at hq
              obtain ⟨a, vs, h3, hm, w, h4, h5, h6⟩ := s2.ownL q3
              have e : some (some ov) = some (some (V.ref a)) := rp.symm.trans h3
              cases e
              cases (show iv = V.int k from ri)
              obtain ⟨g3, s3⟩ := s2.putL (xs := xs) (us := vs.set m v) (ys := xs.set m d) hm h3 w h4 (h5.set m (r.go (g1.trans g2))) (by rw [List.length_set]; exact h6)
              exact ⟨a, vs, k, m, rfl, rfl, h4, by rw [h5.length]; exact q4, hq σ W2 _ (g1.trans (g2.trans g3)) s3 ⟨rfl, fun _ _ => rfl⟩⟩
        | _ => exact hq.elim
end

/-! ### values of one's own side by side -/
def RepEs (K : PySem.W.Frag) (c : Cl) (W : Addr → Prop) (H : Hp) (σ : St) (env : En) : List Ent → List V → Prop
  | [], vs => vs = []
  | x :: xs, vs => ∃ v r, vs = v :: r ∧ RepE K c W H σ env x v ∧ RepEs K c W H σ env xs r ∧ ∀ d a, x = .ow d → v = .ref a → ∀ (j : Nat) d' , xs[j]? = some (.ow d') → r[j]? ≠ some (.ref a)
def EvAO (B : Bx) (es : List Expr) (f : M (List Ent)) : Prop := ∃ t, PA B.X es t ∧ ∀ c W H σ env Q, B.C c → SR B.X.K c W H σ env →
  (f env).Is (fun xs env' => ∀ vs W' H', Go W H W' H' → SR B.X.K c W' H' σ env' → RepEs B.X.K c W' H' σ env' xs vs → Q vs H') (B.XP c W H σ) → t σ H Q
def aoNil : M (List Ent) := fun env => .ok [] env
def aoCons (f : M Ent) (g : M (List Ent)) : M (List Ent) := fun env => match f env with
  | .ok x env1 => (match g env1 with
    | .ok xs env2 => .ok (x :: xs) env2
    | .bad => .bad
    | .ex c d env' => .ex c d env')
  | .bad => .bad
  | .ex c d env' => .ex c d env'
end DL
end
section
set_option maxRecDepth 100000
set_option maxHeartbeats 1000000
/-! DL13: a, b = x, y; op= -/
namespace DL
open PySem PySem.Spec L2
open PyProof.Rows hiding St

section
variable {K : PySem.W.Frag} {c : Cl} {W W' : Addr → Prop} {H H' : Hp} {σ : St} {env : En} {a : Addr} {o : HO}
theorem RepEs.length : ∀ {xs : List Ent} {vs : List V}, RepEs K c W H σ env xs vs → vs.length = xs.length
  | [], _, h => by rw [show _ = [] from h]; rfl
  | x :: xs, _, h => by
    obtain ⟨v, r, rfl, _, h, _⟩ := h
    rw [List.length_cons, List.length_cons, h.length]
/-- what was held is one's own again: the others are not it -/
theorem RepE.unhold {x : Ent} {v : V} (h : RepE K (c.hold a o) W H σ env x v) : RepE K c W H σ env x v ∧ ∀ d, x = .ow d → v ≠ .ref a := by
  cases x with
  | fz d => exact ⟨h, nofun⟩
  | ow d =>
    obtain ⟨b, rfl, h1, h2, h3, h4⟩ := h
    refine ⟨⟨b, rfl, h1, fun z => h2 (.inl z), h3, h4⟩, fun d' _ e => ?_⟩
    cases e
    exact h2 (.inr rfl)
  | _ => exact h.elim
theorem RepEs.unhold : ∀ {xs : List Ent} {vs : List V}, RepEs K (c.hold a o) W H σ env xs vs → RepEs K c W H σ env xs vs ∧ ∀ (j : Nat) d, xs[j]? = some (.ow d) → vs[j]? ≠ some (.ref a)
  | [], vs, h => ⟨h, fun j d e => by simp at e⟩
  | x :: xs, vs, h => by
    obtain ⟨v, r, rfl, h1, h2, h3⟩ := h
    obtain ⟨e1, e2⟩ := h1.unhold
    obtain ⟨f1, f2⟩ := h2.unhold
    refine ⟨⟨v, r, rfl, e1, f1, h3⟩, fun j d e => ?_⟩
    cases j with
    | zero =>
      simp only [List.getElem?_cons_zero, Option.some.injEq] at e ⊢
      exact fun z => e2 d e (Option.some.inj z)
    | succ j =>
      simp only [List.getElem?_cons_succ] at e ⊢
      exact f2 j d e
end
section
variable {B : Bx} {e : Expr} {es : List Expr}
theorem eao_nil : EvAO B [] aoNil := ⟨_, pa_nil, fun c W H σ env Q hc s hq => hq _ _ _ Go.refl s rfl⟩
theorem eao_cons {k : Nat} {f : M Ent} {g : M (List Ent)} (G : Gd B k) (h : EvO B e f) (hr : EvAO B es g) (hs : starEach (e :: es) B.X.env = (false, eval e B.X.env) :: starEach es B.X.env := by rfl) : EvAO B (e :: es) (aoCons f g) := by
  obtain ⟨t, p, h⟩ := h
  obtain ⟨tr, pr, hr⟩ := hr
  refine ⟨_, pa_cons p pr hs, fun c W H σ env Q hc s hq => h c W H σ env _ hc s ?_⟩
  unfold aoCons at hq
  cases q : f env with
  | bad => rw [q] at hq; exact hq
  | ex k d env' => rw [q] at hq; exact hq
  | ok x env1 =>
    rw [q] at hq
    dsimp only at hq
    intro v W1 H1 g1 s1 r1
    cases x with
    | fz d =>
      refine hr c W1 H1 σ env1 _ hc s1 ?_
      cases q2 : g env1 with
      | bad => rw [q2] at hq; exact hq
      | ex k d env' => rw [q2] at hq; exact fun cls dx W' H' g' => hq cls dx W' H' (g1.trans g')
      | ok xs env2 =>
        rw [q2] at hq
        exact fun vs W2 H2 g2 s2 r2 => hq (v :: vs) W2 H2 (g1.trans g2) s2 ⟨v, vs, rfl, Rep.go g2 r1, r2, fun d' a e => by cases e⟩
    | ow d =>
      obtain ⟨a, rfl, w1, n1, o1, m1⟩ := r1
      obtain ⟨ob, hob⟩ := o1.there
      obtain ⟨h0, hio⟩ := s1.own0 w1 n1
      refine hr (c.hold a ob) W1 H1 σ env1 _ (G.cl c a ob hc) (s1.hold w1 hob m1) ?_
      cases q2 : g env1 with
      | bad => rw [q2] at hq; exact hq
      | ex k d env' => rw [q2] at hq; exact fun cls dx W' H' g' s' => hq cls dx W' H' (g1.trans g') (s'.unhold n1 h0 hio).1
      | ok xs env2 =>
        rw [q2] at hq
        refine fun vs W2 H2 g2 s2 r2 => ?_
        obtain ⟨s3, w3, a3, m3⟩ := s2.unhold n1 h0 hio
        obtain ⟨r3, n3⟩ := r2.unhold
        refine hq (.ref a :: vs) W2 H2 (g1.trans g2) s3 ⟨_, vs, rfl, ⟨a, rfl, w3, n1, o1.go g2 (a3.trans hob.symm), m3⟩, r3, fun d' a' e1 e2 => ?_⟩
        cases e2
        exact n3
    | no => exact r1.elim
    | io _ => exact r1.elim
    | xc _ _ => exact r1.elim
end

/-! ### storing side by side -/
def setV : List Nat → List V → St → St
  | i :: is, v :: vs, σ => setV is vs (σ.set i (some v))
  | _, _, σ => σ
def setEn : List Nat → List Ent → En → En
  | i :: is, x :: xs, e => setEn is xs (e.set i x)
  | _, _, e => e
section
variable {K : PySem.W.Frag} {c : Cl} {W W' : Addr → Prop} {H H' : Hp}
/-- a value beside one that is stored -/
theorem RepE.beside {σ : St} {env : En} {x y : Ent} {u v : V} {i : Nat} (h : RepE K c W H σ env y u) (hi : i < env.length) (hl : env.length = σ.length) (n : ∀ d a, x = .ow d → v = .ref a → ∀ d', y = .ow d' → u ≠ .ref a) (hx : RepE K c W H σ env x v) : RepE K c W H (σ.set i (some v)) (env.set i x) y u := by
  cases y with
  | fz d => exact h
  | ow d =>
    obtain ⟨b, rfl, h1, h2, h3, h4⟩ := h
    refine ⟨b, rfl, h1, h2, h3, fun j ⟨d', m⟩ hj => ?_⟩
    by_cases e : j = i
    · subst e
      have hj' : (σ.set j (some v))[j]? = _ := hj
      rw [List.getElem?_set_self (by omega)] at hj'
      cases hj'
      rw [List.getElem?_set_self hi] at m
      rcases m with m | m
      · have m := Option.some.inj m
        exact n d' b m rfl d rfl rfl
      · have m := Option.some.inj m
        subst m
        exact hx.elim
    · rw [List.getElem?_set_ne (Ne.symm e)] at m
      have hj' : (σ.set i (some v))[j]? = _ := hj
      rw [List.getElem?_set_ne (Ne.symm e)] at hj'
      exact h4 j ⟨d', m⟩ hj'
  | _ => exact h.elim
theorem RepEs.beside {σ : St} {env : En} {x : Ent} {v : V} {i : Nat} (hi : i < env.length) (hl : env.length = σ.length) (hx : RepE K c W H σ env x v) : ∀ {xs : List Ent} {vs : List V}, RepEs K c W H σ env xs vs →
    (∀ d a, x = .ow d → v = .ref a → ∀ (j : Nat) d', xs[j]? = some (.ow d') → vs[j]? ≠ some (.ref a)) → RepEs K c W H (σ.set i (some v)) (env.set i x) xs vs
  | [], vs, h, _ => h
  | y :: ys, vs, h, n => by
    obtain ⟨u, r, rfl, h1, h2, h3⟩ := h
    refine ⟨u, r, rfl, h1.beside hi hl (fun d a e1 e2 d' e3 => ?_) hx, RepEs.beside hi hl hx h2 fun d a e1 e2 j d' e3 => ?_, h3⟩
    · subst e3
      intro z
      exact n d a e1 e2 0 d' rfl (by rw [z]; rfl)
    · have := n d a e1 e2 (j + 1) d' (by simpa using e3)
      simpa using this
theorem SR.storeL : ∀ {is : List Nat} {xs : List Ent} {vs : List V} {σ : St} {env : En}, SR K c W H σ env → RepEs K c W H σ env xs vs → (∀ i ∈ is, i < env.length) → SR K c W H (setV is vs σ) (setEn is xs env)
  | [], xs, vs, σ, env, s, r, _ => by
    cases vs <;> cases xs <;> exact s
  | i :: is, [], vs, σ, env, s, r, _ => by
    rw [show vs = [] from r]
    exact s
  | i :: is, x :: xs, vs, σ, env, s, r, hi => by
    obtain ⟨v, us, rfl, h1, h2, h3⟩ := r
    have h0 := hi i List.mem_cons_self
    show SR K c W H (setV is us (σ.set i (some v))) (setEn is xs (env.set i x))
    exact SR.storeL (is := is) (s.store h1 h0) (h2.beside h0 s.len h1 h3) fun j hj => by rw [List.length_set]; exact hi j (List.mem_cons_of_mem _ hj)
end
def lPar (is : List Nat) (f : M (List Ent)) : M Fl := fun env => match f env with
  | .ok xs env' => if xs.length = is.length ∧ ∀ i ∈ is, i < env'.length then .ok .nx (setEn is xs env') else .bad
  | .bad => .bad
  | .ex c d env' => .ex c d env'
section
variable {B : Bx} {pos : Pos} {i j l : Nat} {x y z : Str} {a b d : Expr} {px py pz pt : Pos} {kt k2 pt2} {f : M (List Ent)} {k : Nat}
theorem es_par (G : Gd B k) (ha : EvAO B [a, b] f) (hij : i ≠ j) (hw : swappedStores [.Tuple [.Name x px, .Name y py] kt pt] (.Tuple [a, b] k2 pt2) B.X.env = pure (some [x, y]) := by rfl)
    (hi : B.X.N[i]? = some x := by rfl) (hj : B.X.N[j]? = some y := by rfl) (hx : B.X.env.scope.names.lookup x = some .local := by rfl) (hy : B.X.env.scope.names.lookup y = some .local := by rfl)
    (hs : swapsWithSole [.Tuple [.Name x px, .Name y py] kt pt] (.Tuple [a, b] k2 pt2) pos.line B.X.env = pure false := by rfl) :
    EvS B (.Assign [.Tuple [.Name x px, .Name y py] kt pt] (.Tuple [a, b] k2 pt2) pos) (lPar [i, j] f) := by
  obtain ⟨t, pa, ha⟩ := ha
  refine ⟨_, ps_par G.calm G.nd hi hj hij hx hy pa hw hs, fun c W H σ env E hc s hq => ha c W H σ env _ hc s ?_⟩
  unfold lPar at hq
  cases q : f env with
  | bad => rw [q] at hq; exact hq
  | ex k d env' => rw [q] at hq; exact hq.xp
  | ok xs env' =>
    rw [q] at hq
    dsimp only at hq
    split at hq
    · rename_i hl
      intro vs W' H' g s' r
      have l := r.length
      rw [hl.1] at l
      match vs, l, r with
      | [v, w], _, r => exact ⟨v, w, rfl, hq _ W' H' g (s'.storeL (is := [i, j]) r hl.2)⟩
    · exact hq.elim
theorem es_par3 (G : Gd B k) (ha : EvAO B [a, b, d] f) (hij : i ≠ j) (hil : i ≠ l) (hjl : j ≠ l)
    (hw : swappedStores [.Tuple [.Name x px, .Name y py, .Name z pz] kt pt] (.Tuple [a, b, d] k2 pt2) B.X.env = pure (some [x, y, z]) := by rfl)
    (hi : B.X.N[i]? = some x := by rfl) (hj : B.X.N[j]? = some y := by rfl) (hl : B.X.N[l]? = some z := by rfl) (hx : B.X.env.scope.names.lookup x = some .local := by rfl) (hy : B.X.env.scope.names.lookup y = some .local := by rfl) (hz : B.X.env.scope.names.lookup z = some .local := by rfl)
    (hs : swapsWithSole [.Tuple [.Name x px, .Name y py, .Name z pz] kt pt] (.Tuple [a, b, d] k2 pt2) pos.line B.X.env = pure false := by rfl) :
    EvS B (.Assign [.Tuple [.Name x px, .Name y py, .Name z pz] kt pt] (.Tuple [a, b, d] k2 pt2) pos) (lPar [i, j, l] f) := by
  obtain ⟨t, pa, ha⟩ := ha
  refine ⟨_, ps_par3 G.calm G.nd hi hj hl hij hil hjl hx hy hz pa hw hs, fun c W H σ env E hc s hq => ha c W H σ env _ hc s ?_⟩
  unfold lPar at hq
  cases q : f env with
  | bad => rw [q] at hq; exact hq
  | ex k d env' => rw [q] at hq; exact hq.xp
  | ok xs env' =>
    rw [q] at hq
    dsimp only at hq
    split at hq
    · rename_i hl
      intro vs W' H' g s' r
      have l := r.length
      rw [hl.1] at l
      match vs, l, r with
      | [v, w, u], _, r => exact ⟨v, w, u, rfl, hq _ W' H' g (s'.storeL (is := [_, _, _]) r hl.2)⟩
    · exact hq.elim
end

/-! ### op= of names -/
/-- values that nobody writes -/
def IpOk (X : Cx) (op : Operator) (F : D → D → Option Ent) : Prop := ∃ t, PIp X op t ∧ ∀ {W : Addr → Prop} {H : Hp} {a b : D} {x y : V} {d : D}, Rep X.K W H a x → Rep X.K W H b y → F a b = some (.fz d) → ∃ v, Rep X.K W H d v ∧ ∀ Q : VK, Q v H → t x y H Q
def lAug (i : Nat) (F : D → D → Option Ent) (f : M D) : M Fl := fun env => match env[i]? with
  | some (.fz a) => (match f env with
    | .ok b env1 => (match F a b with
      | some (.fz d) => .ok .nx (env1.set i (.fz d))
      | _ => .bad)
    | .bad => .bad
    | .ex c d env' => .ex c d env')
  | _ => .bad
section
variable {X : Cx}
theorem ipi {op : Operator} {C : Int → Int → Prop} {p : Int → Int → Bool} {g : Int → Int → Int} (h : PIp X op (rI C fun a b => .int (g a b))) (hp : ∀ a b, p a b = true → C a b) : IpOk X op (intC p g) := by
  refine ⟨_, h, fun {W H a b x y d} ra rb e => ?_⟩
  cases a with
  | int a =>
    cases b with
    | int b =>
      obtain ⟨h1, h2⟩ := ite_some e
      cases h2
      exact ⟨_, rfl, fun Q q => ⟨a, b, ra, rb, hp a b h1, q⟩⟩
    | _ => cases e
  | _ => cases e
theorem ipi0 {op : Operator} {g : Int → Int → Int} (h : PIp X op (rI0 fun a b => .int (g a b))) : IpOk X op (intD g) := by
  refine ⟨_, h, fun {W H a b x y d} ra rb e => ?_⟩
  cases a with
  | int a =>
    cases b with
    | int b =>
      cases e
      exact ⟨_, rfl, fun Q q => ⟨a, b, ra, rb, q⟩⟩
    | _ => cases e
  | _ => cases e
def iaddD : D → D → Option Ent := intD fun a b => a + b
def imulD : D → D → Option Ent := intC (fun a b => decide (a.natAbs < 2 ^ 64) || decide (b.natAbs < 2 ^ 64)) fun a b => a * b
def ishlD : D → D → Option Ent := intC okPow fun a b => a * 2 ^ b.toNat
theorem ip_addD : IpOk X .Add iaddD := ipi0 iop_add
theorem ip_subD : IpOk X .Sub subD := ipi0 iop_sub
theorem ip_mulD : IpOk X .Mult imulD := ipi iop_mul fun a b h => by
  simp only [Bool.or_eq_true, decide_eq_true_eq] at h
  unfold CMul
  omega
theorem ip_andD : IpOk X .BitAnd andD := ipi0 iop_and
theorem ip_orD : IpOk X .BitOr orD := ipi0 iop_or
theorem ip_xorD : IpOk X .BitXor xorD := ipi0 iop_xor
theorem ip_shlD : IpOk X .LShift shlD := ipi iop_shl fun a b h => by
  unfold okPow at h
  simp only [Bool.and_eq_true, decide_eq_true_eq] at h
  exact ⟨h.1, by omega, h.2.2⟩
theorem ip_shrD : IpOk X .RShift shrD := ipi iop_shr fun a b h => by simpa using h
theorem ip_modD : IpOk X .Mod modD := ipi iop_mod fun a b h => by simpa using h
end
section
variable {B : Bx} {e : Expr} {pos : Pos} {i k : Nat} {x : Str} {op : Operator} {F : D → D → Option Ent} {f : M D} {pos' : Pos}
theorem es_aug (G : Gd B k) (h : EvF B e f) (ho : IpOk B.X op F) (hi : B.X.N[i]? = some x := by rfl) (hx : Loc B.X.env.scope x := by first | exact Or.inl rfl | exact Or.inr rfl)
    (hf : B.X.fn x = true ∨ B.X.env.scope.names.lookup x = some .local := by first | exact Or.inl rfl | exact Or.inr rfl) : EvS B (.AugAssign (.Name x pos') op e pos) (lAug i F f) := by
  obtain ⟨t, pt, h⟩ := h
  obtain ⟨ti, pi, ho⟩ := ho
  refine ⟨_, ps_aug G.nd hi hx pt pi hf, fun c W H σ env E hc s hq => ?_⟩
  unfold lAug at hq
  cases q : env[i]? with
  | none => rw [q] at hq; exact hq.elim
  | some en =>
    rw [q] at hq
    cases en with
    | fz a =>
      dsimp only at hq
      obtain ⟨v, h1, h2⟩ := s.fz i a q
      refine ⟨v, h1, h c W H σ env _ hc s ?_⟩
      cases q1 : f env with
      | bad => rw [q1] at hq; exact hq
      | ex k d env' => rw [q1] at hq; exact hq.xp
      | ok b env1 =>
        rw [q1] at hq
        dsimp only at hq
        intro u W1 H1 g1 s1 r1
        cases q2 : F a b with
        | none => rw [q2] at hq; exact hq.elim
        | some y =>
          rw [q2] at hq
          cases y with
          | fz d =>
            obtain ⟨w, r2, r3⟩ := ho (h2.go g1) r1 q2
            have hl : i < env1.length := by
              rw [s1.len, ← s.len]
              exact (List.getElem?_eq_some_iff.mp q).1
            exact r3 _ (hq _ W1 H1 g1 (s1.store (x := .fz d) r2 hl))
          | _ => exact hq.elim
    | _ => exact hq.elim
end
end DL
end
section
set_option maxRecDepth 100000
set_option maxHeartbeats 1000000
/-! DL14: methods that read; sorted, repr, f-strings -/
namespace DL
open PySem PySem.Spec L2
open PyProof.Rows hiding St

/-- F says what a method gives on a receiver and arguments -/
def rM (K : PySem.W.Frag) (F : D → List D → Option Ent) : V → List V → Hp → VK → Prop := fun x us H Q => ∃ c W σ env d args e, SR K c W H σ env ∧ RepB K W H d x ∧ RepL K W H args us ∧ F d args = some e ∧
  ∀ v W' H', Go W H W' H' → SR K c W' H' σ env → RepE K c W' H' σ env e v → Q v H'
/-- the receiver's type, as data tell it -/
def tyD : D → Option String
  | .str _ => some "str"
  | .int _ => some "int"
  | .list _ => some "list"
  | .tuple _ => some "tuple"
  | _ => none
def dRd (T : String) (F : D → List D → Option Ent) (p : M Pl) (f : M (List D)) : M Ent := fun env => match p env with
  | .ok pl env1 => (match pl.get env1 with
    | some d0 => if tyD d0 = some T then (match f env1 with
      | .ok args env2 => (match pl.get env2 with
        | some d => (match F d args with
          | some x => .ok x env2
          | none => .bad)
        | none => .bad)
      | .bad => .bad
      | .ex c d env' => .ex c d env') else .bad
    | none => .bad)
  | .bad => .bad
  | .ex c d env' => .ex c d env'
def tyP (K : PySem.W.Frag) (T : String) (x : V) (H : Hp) : Prop := ∃ W d, RepB K W H d x ∧ tyD d = some T
section
variable {X : Cx}
theorem ty_ok (T : String) : TyOk X T (tyP X.K T) := by
  intro pins σ H s x v I r ⟨W, d, rb, e⟩
  cases d with
  | str z =>
    obtain ⟨rfl, _⟩ := rb.str
    obtain ⟨t, rfl⟩ := r
    cases e
    exact ⟨typeIs_str s z t, fun _ e => nomatch e⟩
  | int i =>
    obtain rfl := rb.int
    obtain ⟨t, rfl⟩ := r
    cases e
    exact ⟨typeIs_int s i t, fun _ e => nomatch e⟩
  | list xs =>
    obtain ⟨a, vs, rfl, q, _, _⟩ := rb.list
    cases r
    cases e
    obtain ⟨its, n, _, _, _, o⟩ := lstX I q
    refine ⟨⟨_, o, rfl⟩, fun b e => ?_⟩
    cases e
    exact ⟨_, o, rfl⟩
  | tuple xs =>
    have rt : Rep X.K W H (.tuple xs) x := rb.elim id fun ⟨_, _, z⟩ => z.elim
    obtain ⟨a, vs, rfl, q, _, _⟩ := rt
    cases r
    cases e
    rcases q with ⟨_, o, hd, ho⟩ | ⟨o, its, n, hk, hc, hd, hs, hz, r⟩
    · obtain ⟨h1, _, _, _, o', h2, h3, _⟩ := I.hok a _ ho
      rw [h1] at h2
      cases h2
      refine ⟨⟨_, h1, h3⟩, fun b e => ?_⟩
      cases e
      exact ⟨_, h1, hd⟩
    · have h1 := I.kIn a _ hk
      refine ⟨⟨_, h1, hc⟩, fun b e => ?_⟩
      cases e
      exact ⟨_, h1, hd⟩
  | _ => cases e
end
section
variable {B : Bx} {o e : Expr} {es : List Expr} {name : Str} {apos cpos : Pos} {id T : String} {F : D → List D → Option Ent}
theorem read_core {p : M Pl} {f : M (List D)} {to : TE} {t : TA} {T : String}
    (ho : ∀ c W H σ env Q, B.C c → SR B.X.K c W H σ env → (p env).Is (fun p env' => ∀ v W' H', Go W H W' H' → SR B.X.K c W' H' σ env' → RepP B.X.K W' H' σ p v → Q v H') (B.XP c W H σ) → to σ H Q)
    (ha : ∀ c W H σ env Q, B.C c → SR B.X.K c W H σ env → (f env).Is (fun ds env' => ∀ vs W' H', Go W H W' H' → SR B.X.K c W' H' σ env' → RepL B.X.K W' H' ds vs → Q vs H') (B.XP c W H σ) → t σ H Q)
    {c : Cl} {W : Addr → Prop} {H : Hp} {σ : St} {env : En} {Q : VK} (hc : B.C c) (s : SR B.X.K c W H σ env)
    (hq : (dRd T F p f env).Is (fun x env' => ∀ v W' H', Go W H W' H' → SR B.X.K c W' H' σ env' → RepE B.X.K c W' H' σ env' x v → Q v H') (B.XP c W H σ)) :
    to σ H fun x H1 => tyP B.X.K T x H1 ∧ t σ H1 fun xs H2 => rM B.X.K F x xs H2 Q := by
  refine ho c W H σ env _ hc s ?_
  unfold dRd at hq
  cases q : p env with
  | bad => rw [q] at hq; exact hq
  | ex k d env' => rw [q] at hq; exact hq
  | ok pl env1 =>
    rw [q] at hq
    dsimp only at hq
    cases q1 : pl.get env1 with
    | none => rw [q1] at hq; exact hq.elim
    | some d0 =>
      rw [q1] at hq
      dsimp only at hq
      by_cases ht : tyD d0 = some T
      · rw [if_pos ht] at hq
        intro x W1 H1 g1 s1 rp
        refine ⟨⟨W1, d0, s1.look rp q1, ht⟩, ha c W1 H1 σ env1 _ hc s1 ?_⟩
        cases q2 : f env1 with
        | bad => rw [q2] at hq; exact hq
        | ex k d env' => rw [q2] at hq; exact fun cls dx W' H' g' => hq cls dx W' H' (g1.trans g')
        | ok args env2 =>
          rw [q2] at hq
          dsimp only at hq
          cases q3 : pl.get env2 with
          | none => rw [q3] at hq; exact hq.elim
          | some d =>
            rw [q3] at hq
            dsimp only at hq
            cases q4 : F d args with
            | none => rw [q4] at hq; exact hq.elim
            | some y =>
              rw [q4] at hq
              exact fun us W2 H2 g2 s2 ra => ⟨c, W2, σ, env2, d, args, y, s2, s2.look (RepP.go g2 rp) q3, ra, q4, fun v W3 H3 g3 s3 r3 => hq v W3 H3 (g1.trans (g2.trans g3)) s3 r3⟩
      · rw [if_neg ht] at hq
        exact hq.elim
theorem eo_rd {p : M Pl} {f : M (List D)} (pa : PlainAttrs T) (slot : Slot T name id) (hm : MtR B.X id (rM B.X.K F)) (ho : EvB B o p) (ha : EvA B (e :: es) f) (hty : typeOf (.builtin id) = pure (.type "method_descriptor") := by rfl)
    (hbase : attributeBase o name B.X.env (eval o B.X.env) = eval o B.X.env := by rfl)
    (hfew : ((backTo cpos (starEach (e :: es) B.X.env)).all (fun x => !x.1) && (backToKw cpos (keywordEach [] B.X.env)).all (fun x => x.1.isSome)
      && decide ((e :: es).length + ([] : List Keyword).length + (if ([] : List Keyword).isEmpty then 0 else 1) < 30)) = true := by rfl)
    (hline : (apos.endLine == cpos.line) = true := by rfl) (hs : starEach (e :: es) B.X.env = (false, eval e B.X.env) :: starEach es B.X.env := by rfl) (hplain : (backTo cpos (starEach es B.X.env)).any (·.1) = false := by rfl) :
    EvO B (.Call (.Attribute o name apos) (e :: es) [] cpos) (dRd T F p f) := by
  obtain ⟨to, po, ho⟩ := ho
  obtain ⟨t, pt, ha⟩ := ha
  exact ⟨_, pe_mG (ty_ok T) pa slot hty hm po pt hbase hfew hline hs hplain, fun c W H σ env Q hc s hq => read_core ho ha hc s hq⟩
theorem eo_rd0 {p : M Pl} (pa : PlainAttrs T) (slot : Slot T name id) (hm : MtR B.X id (rM B.X.K F)) (ho : EvB B o p) (hty : typeOf (.builtin id) = pure (.type "method_descriptor") := by rfl)
    (hbase : attributeBase o name B.X.env (eval o B.X.env) = eval o B.X.env := by rfl) (hline : (apos.endLine == cpos.line) = true := by rfl) : EvO B (.Call (.Attribute o name apos) [] [] cpos) (dRd T F p aNil) := by
  obtain ⟨to, po, ho⟩ := ho
  exact ⟨_, pe_mG0 (ty_ok T) pa slot hty hm po hbase hline, fun c W H σ env Q hc s hq => read_core (t := fun σ H Q => Q [] H) (f := aNil) ho (fun c W H σ env Q hc s hq => hq [] W H Go.refl s rfl) hc s hq⟩
end

/-! ### texts -/
def okS (x : Str) : Bool := fits x.length && PyData.strOk x
theorem okS_ok {x : Str} (h : okS x = true) : x.length ≤ sizeLine ∧ PyData.strOk x = true := by
  unfold okS at h
  rw [Bool.and_eq_true] at h
  exact ⟨fits_ok h.1, h.2⟩
def allStr : List D → Option (List Str)
  | [] => some []
  | .str x :: ds => (allStr ds).map (x :: ·)
  | _ => none
theorem allStr_rep {K : PySem.W.Frag} {W : Addr → Prop} {H : Hp} : ∀ {ds : List D} {vs : List V} {xs : List Str}, RepL K W H ds vs → allStr ds = some xs → vs = xs.map V.str ∧ ∀ x ∈ xs, x.length ≤ sizeLine ∧ PyData.strOk x = true
  | [], vs, xs, r, e => by
    cases e
    exact ⟨r, fun _ h => nomatch h⟩
  | d :: ds, vs, xs, r, e => by
    obtain ⟨v, us, rfl, h1, h2⟩ := r
    cases d with
    | str x =>
      obtain ⟨ys, e1, rfl⟩ := omap e
      obtain ⟨h3, h4⟩ := allStr_rep h2 e1
      obtain ⟨rfl, h5⟩ := h1
      refine ⟨by rw [h3]; rfl, fun y hy => ?_⟩
      rcases List.mem_cons.mp hy with rfl | hy
      · exact h5
      · exact h4 y hy
    | _ => cases e
theorem rep_strs {K : PySem.W.Frag} {W : Addr → Prop} {H : Hp} : ∀ {xs : List Str}, xs.all okS = true → RepL K W H (xs.map .str) (xs.map V.str)
  | [], _ => rfl
  | x :: xs, h => by
    rw [List.all_cons, Bool.and_eq_true] at h
    exact ⟨.str x, xs.map V.str, rfl, ⟨rfl, okS_ok h.1⟩, rep_strs h.2⟩
def oStr (x : Str) : Option Ent := if okS x then some (.fz (.str x)) else none
def splitF : D → List D → Option Ent
  | .str a, [.str b] => if ((b.length != 0) && fits (a.length + 2)) && ((Txt.split a b).all okS && fits (Txt.split a b).length) then some (.ow (.list ((Txt.split a b).map .str))) else none
  | _, _ => none
def partitionF : D → List D → Option Ent
  | .str a, [.str b] => if (b.length != 0) && (okS (Txt.partition a b).1 && (okS (Txt.partition a b).2.1 && okS (Txt.partition a b).2.2)) then some (.fz (.tuple [.str (Txt.partition a b).1, .str (Txt.partition a b).2.1, .str (Txt.partition a b).2.2])) else none
  | _, _ => none
def joinF : D → List D → Option Ent
  | .str a, [.list ds] => (match allStr ds with
    | some xs => if fits ((xs.map (·.length)).sum + xs.length * a.length) then oStr (Txt.join a xs) else none
    | none => none)
  | .str a, [.tuple ds] => (match allStr ds with
    | some xs => if fits ((xs.map (·.length)).sum + xs.length * a.length) then oStr (Txt.join a xs) else none
    | none => none)
  | _, _ => none
def startswithF : D → List D → Option Ent
  | .str a, [.str b] => some (.fz (.bool (Txt.startswith a b)))
  | _, _ => none
def removeprefixF : D → List D → Option Ent
  | .str a, [.str b] => oStr (Txt.removeprefix a b)
  | _, _ => none
section
variable {X : Cx}
theorem m_startswith : MtR X "str.startswith" (rM X.K startswithF) := by
  rintro pins s σ H x xs v us Q I rx rs ⟨c, W, σ', env, d, args, e, hs, rb, ra, hF, q⟩
  match d, args, hF with
  | .str a, [.str b], hF =>
    cases hF
    obtain ⟨rfl, _⟩ := rb.str
    obtain ⟨y, rfl, ry⟩ := ra.one
    obtain ⟨rfl, _⟩ := ry
    exact mt_startswith pins s σ H _ _ v us Q I rx rs ⟨a, b, rfl, rfl, q _ W H Go.refl hs rfl⟩
theorem m_removeprefix : MtR X "str.removeprefix" (rM X.K removeprefixF) := by
  rintro pins s σ H x xs v us Q I rx rs ⟨c, W, σ', env, d, args, e, hs, rb, ra, hF, q⟩
  match d, args, hF with
  | .str a, [.str b], hF =>
    obtain ⟨h1, rfl⟩ := ite_some hF
    obtain ⟨rfl, h2, _⟩ := rb.str
    obtain ⟨y, rfl, ry⟩ := ra.one
    obtain ⟨rfl, _⟩ := ry
    exact mt_removeprefix pins s σ H _ _ v us Q I rx rs ⟨a, b, rfl, rfl, h2, q _ W H Go.refl hs ⟨rfl, okS_ok h1⟩⟩
theorem m_split : MtR X "str.split" (rM X.K splitF) := by
  rintro pins s σ H x xs v us Q I rx rs ⟨c, W, σ', env, d, args, e, hs, rb, ra, hF, q⟩
  match d, args, hF with
  | .str a, [.str b], hF =>
    obtain ⟨h1, rfl⟩ := ite_some hF
    simp only [Bool.and_eq_true, bne_iff_ne, ne_eq] at h1
    obtain ⟨⟨h2, h3⟩, h4, h5⟩ := h1
    obtain ⟨rfl, _⟩ := rb.str
    obtain ⟨y, rfl, ry⟩ := ra.one
    obtain ⟨rfl, _⟩ := ry
    exact mt_split pins s σ H _ _ v us Q I rx rs ⟨a, b, rfl, rfl, by simpa using h2, fits_ok h3, new_list hs (rep_strs h4) (by rw [List.length_map]; exact fits_ok h5) q⟩
theorem m_join : MtR X "str.join" (rM X.K joinF) := by
  rintro pins s σ H x xs v us Q I rx rs ⟨c, W, σ', env, d, args, e, hs, rb, ra, hF, q⟩
  match d, args, hF with
  | .str a, [.list ds], hF =>
    unfold joinF at hF
    dsimp only at hF
    cases q1 : allStr ds with
    | none => rw [q1] at hF; cases hF
    | some zs =>
      rw [q1] at hF
      dsimp only at hF
      split at hF
      · rename_i hf
        obtain ⟨h1, rfl⟩ := ite_some hF
        obtain ⟨rfl, _⟩ := rb.str
        obtain ⟨y, rfl, p, vs, rfl, r1, r2, _⟩ := ra.one
        obtain ⟨rfl, _⟩ := allStr_rep r2 q1
        exact mt_join pins s σ H _ _ v us Q I rx rs ⟨a, p, zs, rfl, rfl, .inl r1.sq, fits_ok hf, q _ W H Go.refl hs ⟨rfl, okS_ok h1⟩⟩
      · cases hF
  | .str a, [.tuple ds], hF =>
    unfold joinF at hF
    dsimp only at hF
    cases q1 : allStr ds with
    | none => rw [q1] at hF; cases hF
    | some zs =>
      rw [q1] at hF
      dsimp only at hF
      split at hF
      · rename_i hf
        obtain ⟨h1, rfl⟩ := ite_some hF
        obtain ⟨rfl, _⟩ := rb.str
        obtain ⟨y, rfl, p, vs, rfl, r1, r2, _⟩ := ra.one
        obtain ⟨rfl, _⟩ := allStr_rep r2 q1
        exact mt_join pins s σ H _ _ v us Q I rx rs ⟨a, p, zs, rfl, rfl, .inr r1.sq, fits_ok hf, q _ W H Go.refl hs ⟨rfl, okS_ok h1⟩⟩
      · cases hF
/-- x.partition(sep), its tuple known -/
theorem mt_partitionF : MtR X "str.partition" (fun x xs H Q => ∃ a b, x = .str a ∧ xs = [.str b] ∧ (b.length == 0) = false ∧ a.length ≤ sizeLine ∧
    ∀ p o, Obj.dict o = none → H p = none → Q (.ref p) (upd H p (.frz o (.tup [.str (Txt.partition a b).1, .str (Txt.partition a b).2.1, .str (Txt.partition a b).2.2])))) := by
  rintro pins s σ H x xs v us Q I rx rs ⟨a, b, rfl, rfl, hb, hz, h⟩
  obtain ⟨t, rfl⟩ := rx
  obtain ⟨u', rfl, u, rfl⟩ := vals1 rs
  have fin : ∀ {x y z : Str} {t u v : Tok} {k : Nat}, (∀ p o, Obj.dict o = none → H p = none → Q (.ref p) (upd H p (.frz o (.tup [.str x, .str y, .str z])))) →
      EP X pins σ Q (.ref s.heap.objs.size) { s with toks := k, heap := s.heap.push { cls := .type "tuple", data := .seq [Value.str x t, .str y u, .str z v].toArray } } := fun {x y z t u v k} h =>
    laid_tup (s := { s with toks := k }) (vs := [.str x, .str y, .str z]) (I.tok k) (.cons ⟨t, rfl⟩ (.cons ⟨u, rfl⟩ (.cons ⟨v, rfl⟩ .nil))) (by show 3 ≤ sizeLine; decide) h
  refine call_meets F.slot_str_partition (typeIs_str _ _ _) F.entry_str_partition (F.args_str_partition_2 _ _) (meets_str_partition a b t u hb hz) ?_
  unfold Txt.partition at h
  revert h
  cases Builtin.Str.occurrences a b 0 a.length 1 with
  | nil => intro h; exact fin h
  | cons i r => intro h; exact fin h
theorem m_partition : MtR X "str.partition" (rM X.K partitionF) := by
  rintro pins s σ H x xs v us Q I rx rs ⟨c, W, σ', env, d, args, e, hs, rb, ra, hF, q⟩
  match d, args, hF with
  | .str a, [.str b], hF =>
    obtain ⟨h1, rfl⟩ := ite_some hF
    simp only [Bool.and_eq_true, bne_iff_ne, ne_eq] at h1
    obtain ⟨h2, h3, h4, h5⟩ := h1
    obtain ⟨rfl, hl, _⟩ := rb.str
    obtain ⟨y, rfl, ry⟩ := ra.one
    obtain ⟨rfl, _⟩ := ry
    exact mt_partitionF pins s σ H _ _ v us Q I rx rs ⟨a, b, rfl, rfl, by simpa using h2, hl, new_tup (ds := [.str (Txt.partition a b).1, .str (Txt.partition a b).2.1, .str (Txt.partition a b).2.2]) hs ⟨_, _, rfl, ⟨rfl, okS_ok h3⟩, _, _, rfl, ⟨rfl, okS_ok h4⟩, _, _, rfl, ⟨rfl, okS_ok h5⟩, rfl⟩ (by show 3 ≤ sizeLine; decide) q⟩
end
end DL
end
section
set_option maxRecDepth 100000
set_option maxHeartbeats 1000000
/-! DL15: sorted, repr, f-strings -/
namespace DL
open PySem PySem.Spec L2
open PyProof.Rows hiding St

/-! ### sorted(list) -/
def dle (a b : D) : Bool := PySem.W.dataLe false (fun d : D => d) a b
def isTupN : D → Bool
  | .tuple (_ :: _) => true
  | _ => false
def isOth : D → Bool
  | .none => false
  | .tuple _ => false
  | _ => true
def sortable (xs : List D) : Bool := xs.all (fun a => xs.all fun b => PySem.W.alike a b) && ((xs.all isTupN || xs.all isOth) && xs.all fun a => decide (a.depth ≤ 64))
def sortedF : List D → Option Ent
  | [.list xs] => if sortable xs then some (.ow (.list (xs.mergeSort dle))) else none
  | _ => none
theorem sortable_ok {xs : List D} (h : sortable xs = true) : PySem.W.AllAlike xs ∧ PySem.W.Sortable xs ∧ ∀ x ∈ xs, x.depth ≤ 64 := by
  unfold sortable at h
  simp only [Bool.and_eq_true, Bool.or_eq_true, List.all_eq_true, decide_eq_true_eq] at h
  refine ⟨h.1, h.2.1.imp (fun h d hd => ?_) (fun h d hd => ?_), h.2.2⟩
  · have z := h d hd
    cases d with
    | tuple ys =>
      cases ys with
      | nil => cases z
      | cons x r => exact ⟨x, r, rfl⟩
    | _ => cases z
  · have z := h d hd
    cases d with
    | none => cases z
    | tuple ys => cases z
    | _ => exact ⟨nofun, nofun⟩
section
variable {X : Cx}
theorem each_pairs {K : PySem.W.Frag} {W : Addr → Prop} {H : Hp} : ∀ {ds : List D} {vs : List V} {its : List Value}, RepL K W H ds vs → Vals vs its → PySem.W.EachIs (fun (u : Value) (p : D × V) => RelV p.2 u ∧ Rep K W H p.1 p.2) its (ds.zip vs)
  | [], vs, its, r, v => by
    rw [show vs = [] from r] at v
    cases v
    exact .nil
  | d :: ds, vs, its, r, v => by
    obtain ⟨x, us, rfl, h1, h2⟩ := r
    cases v with
    | cons a b => exact .cons ⟨a, h1⟩ (each_pairs h2 b)
theorem pairs_each {K : PySem.W.Frag} {W : Addr → Prop} {H : Hp} : ∀ {ps : List (D × V)} {its : List Value}, PySem.W.EachIs (fun (u : Value) (p : D × V) => RelV p.2 u ∧ Rep K W H p.1 p.2) its ps → RepL K W H (ps.map (·.1)) (ps.map (·.2)) ∧ Vals (ps.map (·.2)) its
  | [], its, e => by
    cases e
    exact ⟨rfl, .nil⟩
  | p :: ps, its, e => by
    cases e with
    | cons a b =>
      obtain ⟨h1, h2⟩ := pairs_each b
      exact ⟨⟨p.2, ps.map (·.2), rfl, a.2, h1⟩, .cons a.1 h2⟩
theorem zip_fst {K : PySem.W.Frag} {W : Addr → Prop} {H : Hp} {ds : List D} {vs : List V} (r : RepL K W H ds vs) : (ds.zip vs).map (·.1) = ds := by
  rw [List.map_fst_zip (by rw [r.length]; exact Nat.le_refl _)]
theorem c_sorted (hu : X.A.units + 100 < cLine) : CallR X (.builtin "sorted") (rC X.K sortedF) := by
  rintro pins s σ H xs us Q I r ⟨c, W, σ', env, ds, e, hs, rb, hF, q⟩
  match ds, hF with
  | [.list ys], hF =>
    obtain ⟨h1, rfl⟩ := ite_some hF
    obtain ⟨hal, hk, hd⟩ := sortable_ok h1
    obtain ⟨v, rfl, r3⟩ := bs1 rb
    obtain ⟨a, vs, rfl, h2, h3, hz⟩ := r3.list
    obtain ⟨u, rfl, ru⟩ := vals1 r
    cases ru
    obtain ⟨its, n, rv, hl, _, ho⟩ := lstX I h2
    have e := each_pairs h3 rv
    have ez := zip_fst h3
    have hlen : (ys.zip vs).length = ys.length := by rw [← List.length_map (f := (·.1)), ez]
    refine PySem.W.sorted_data (R := fun (u : Value) (p : D × V) => RelV p.2 u ∧ Rep X.K W H p.1 p.2) (enc := fun p : D × V => p.1) (bs := ys.zip vs) (vs := its) ⟨_, ho, rfl, _, rfl⟩ e (e.mono fun u p z => Dp.reads I p.1 p.2 u z.2.dp z.1) (by rw [ez]; exact hal) (by rw [ez]; exact hk) (by rw [hlen]; exact hz) (fun p hp => ?_) fun out ol oe => ?_
    · have := hd p.1 (by rw [← ez]; exact List.mem_map.mpr ⟨p, hp, rfl⟩)
      show X.A.units + 2 + p.1.depth < cLine
      omega
    · obtain ⟨r4, r5⟩ := pairs_each oe
      obtain ⟨cc, hc⟩ := PyProof.Rows.sortedAll_at s.heap its out.toArray
      have em : ((ys.zip vs).mergeSort (PySem.W.dataLe false fun p : D × V => p.1)).map (·.1) = ys.mergeSort dle := by
        rw [List.map_mergeSort (s := dle), ez]
        intro x _ y _
        rfl
      rw [em] at r4
      have hn : H (s.heap.objs.size + 1) = none := I.hok.fresh (Nat.le_succ _)
      have lz : (ys.mergeSort dle).length ≤ sizeLine := by rw [List.length_mergeSort]; exact hz
      refine ⟨.ref (s.heap.objs.size + 1), _, I.laid (t' := s.toks) (o := .lst (((ys.zip vs).mergeSort (PySem.W.dataLe false fun p : D × V => p.1)).map (·.2))) (fun b o eb => PyProof.Rows.sortedAll_old eb) (Nat.le_succ _) ⟨?_, out, cc, r5, hc⟩, rfl, new_list hs r4 lz q _ hn⟩
      rw [List.length_map, List.length_mergeSort, hlen]
      exact hz
end

/-! ### repr(list | tuple) -/
def reprF : List D → Option Ent
  | [.list xs] => if PyData.showable (.list xs) && (decide ((PyData.list xs).depth ≤ 64) && okS (PyData.shown (.list xs))) then some (.fz (.str (PyData.shown (.list xs)))) else none
  | [.tuple xs] => if PyData.showable (.tuple xs) && (decide ((PyData.tuple xs).depth ≤ 64) && okS (PyData.shown (.tuple xs))) then some (.fz (.str (PyData.shown (.tuple xs)))) else none
  | _ => none
mutual
theorem Rep.nodict {K : PySem.W.Frag} {W : Addr → Prop} {H : Hp} : ∀ {d : D} {v : V}, Rep K W H d v → d.hasDict = false
  | .none, _, _ => rfl
  | .bool _, _, _ => rfl
  | .int _, _, _ => rfl
  | .str _, _, _ => rfl
  | .tuple xs, _, ⟨_, _, _, _, r, _⟩ => RepL.nodict r
  | .list xs, _, ⟨_, _, _, _, r, _⟩ => RepL.nodict r
  | .dict _, _, h => h.elim
theorem RepL.nodict {K : PySem.W.Frag} {W : Addr → Prop} {H : Hp} : ∀ {ds : List D} {vs : List V}, RepL K W H ds vs → PyData.hasDictAll ds = false
  | [], _, _ => rfl
  | d :: ds, _, ⟨_, _, _, h1, h2⟩ => by
    show (d.hasDict || PyData.hasDictAll ds) = false
    rw [Rep.nodict h1, RepL.nodict h2]
    rfl
end
section
variable {X : Cx}
theorem c_repr (hu : X.A.units + 100 < cLine) (hg : X.A.guards = some []) : CallR X (.builtin "repr") (rC X.K reprF) := by
  rintro pins s σ H xs us Q I r ⟨c, W, σ', env, ds, e, hs, rb, hF, q⟩
  have go : ∀ (d : D), (∀ z, RepB X.K W H d z → ∃ a, z = .ref a ∧ d.hasDict = false) → ds = [d] → (if PyData.showable d && (decide (d.depth ≤ 64) && okS (PyData.shown d)) then some (Ent.fz (.str (PyData.shown d))) else none) = some e →
      wpAny (model X.prog X.w) X.A (call (.builtin "repr") us) (EP X pins σ Q) X.xe s := fun d hd e1 hF2 => by
    subst e1
    obtain ⟨h1, rfl⟩ := ite_some hF2
    simp only [Bool.and_eq_true, decide_eq_true_eq] at h1
    obtain ⟨v, rfl, r3⟩ := bs1 rb
    obtain ⟨a, rfl, nd⟩ := hd v r3
    obtain ⟨u, rfl, ru⟩ := vals1 r
    cases ru
    obtain ⟨as, hr⟩ := Dp.reads I d (.ref a) (.ref a) r3.dp rfl
    refine PySem.repr_of_reads' (h₀ := s.heap) hr h1.1 (fun z => by rw [nd] at z; cases z) hg (by omega) (fun b o e => e) (fun h' t tk kp => ?_) (okS_ok h1.2.2).1
    exact ⟨.str (PyData.shown d), H, I.kept kp, ⟨t, rfl⟩, q _ W H Go.refl hs ⟨rfl, okS_ok h1.2.2⟩⟩
  match ds, hF with
  | [.list ys], hF =>
    refine go (.list ys) (fun z rz => ?_) rfl hF
    rcases rz with rz | ⟨a, rfl, vs, h1, h2, h3⟩
    · have nd := rz.nodict
      obtain ⟨a, vs, rfl, _⟩ := rz
      exact ⟨a, rfl, nd⟩
    · exact ⟨a, rfl, RepL.nodict h2⟩
  | [.tuple ys], hF =>
    refine go (.tuple ys) (fun z rz => ?_) rfl hF
    have rz := rz.tupRep
    have nd := rz.nodict
    obtain ⟨a, vs, rfl, _⟩ := rz
    exact ⟨a, rfl, nd⟩
end

/-! ### f-strings -/
def EvJ (B : Bx) (es : List Expr) (f : Str → M Str) : Prop := ∃ ts, PJ B.X es ts ∧ ∀ c W H σ env acc Q, B.C c → SR B.X.K c W H σ env →
  (f acc env).Is (fun out env' => ∀ W' H', Go W H W' H' → SR B.X.K c W' H' σ env' → Q out H') (B.XP c W H σ) → tJs ts acc σ H Q
def jNil : Str → M Str := fun acc env => .ok acc env
def jCons (f : M D) (g : Str → M Str) : Str → M Str := fun acc env => match f env with
  | .ok (.str y) env1 => if fits (acc ++ y).length then g (acc ++ y) env1 else .bad
  | .ok _ _ => .bad
  | .bad => .bad
  | .ex c d env' => .ex c d env'
def dFmt (f : M D) : M D := fun env => match f env with
  | .ok (.str y) env1 => .ok (.str y) env1
  | .ok (.int i) env1 => if decide (i.natAbs.log2 < 1920) && okS (toString i) then .ok (.str (toString i)) env1 else .bad
  | .ok _ _ => .bad
  | .bad => .bad
  | .ex c d env' => .ex c d env'
def dJoined (f : Str → M Str) : M D := fun env => match f Str.empty env with
  | .ok x env1 => if okS x then .ok (.str x) env1 else .bad
  | .bad => .bad
  | .ex c d env' => .ex c d env'
section
variable {B : Bx} {e v1 v2 : Expr} {es rest : List Expr} {pos : Pos}
theorem ev_fmt {f : M D} (h : EvF B e f) : EvF B (.FormattedValue e (-1) none pos) (dFmt f) := by
  obtain ⟨t, p, h⟩ := h
  refine ⟨_, pe_fmt p, fun c W H σ env Q hc s hq => h c W H σ env _ hc s ?_⟩
  unfold dFmt at hq
  cases q : f env with
  | bad => rw [q] at hq; exact hq
  | ex k d env' => rw [q] at hq; exact hq
  | ok d env1 =>
    rw [q] at hq
    intro v W' H' g s' r
    cases d with
    | str y => exact .inl ⟨y, r.1, r.2.1, hq _ W' H' g s' ⟨rfl, r.2⟩⟩
    | int i =>
      dsimp only at hq
      split at hq
      · rename_i hb
        simp only [Bool.and_eq_true, decide_eq_true_eq] at hb
        exact .inr ⟨i, r, hb.1, hq _ W' H' g s' ⟨rfl, okS_ok hb.2⟩⟩
      · exact hq.elim
    | _ => exact hq.elim
theorem ej_nil : EvJ B [] jNil := ⟨_, .nil, fun c W H σ env acc Q hc s hq => hq W H Go.refl s⟩
theorem ej_cons {f : M D} {g : Str → M Str} (h : EvF B e f) (hr : EvJ B es g) : EvJ B (e :: es) (jCons f g) := by
  obtain ⟨t, p, h⟩ := h
  obtain ⟨ts, ps, hr⟩ := hr
  refine ⟨_, .cons p ps, fun c W H σ env acc Q hc s hq => h c W H σ env _ hc s ?_⟩
  unfold jCons at hq
  cases q : f env with
  | bad => rw [q] at hq; exact hq
  | ex k d env' => rw [q] at hq; exact hq
  | ok d env1 =>
    rw [q] at hq
    intro v W' H' gg s' r
    cases d with
    | str y =>
      dsimp only at hq
      cases hz : fits (acc ++ y).length with
      | false => rw [hz] at hq; exact hq.elim
      | true =>
        rw [hz] at hq
        exact ⟨y, r.1, fits_ok hz, hr c W' H' σ env1 _ Q hc s' (hq.imp (fun out env' z W2 H2 g2 s2 => z W2 H2 (gg.trans g2) s2) fun k d env' z cls dx W2 H2 g2 => z cls dx W2 H2 (gg.trans g2))⟩
    | _ => exact hq.elim
theorem ev_joined {f : Str → M Str} (h : EvJ B (v1 :: v2 :: rest) f) : EvF B (.JoinedStr (v1 :: v2 :: rest) pos) (dJoined f) := by
  obtain ⟨ts, p, h⟩ := h
  refine ⟨_, pe_joined p, fun c W H σ env Q hc s hq => h c W H σ env _ _ hc s ?_⟩
  unfold dJoined at hq
  cases q : f Str.empty env with
  | bad => rw [q] at hq; exact hq
  | ex k d env' => rw [q] at hq; exact hq
  | ok x env1 =>
    rw [q] at hq
    dsimp only at hq
    split at hq
    · rename_i hz
      exact fun W' H' g s' => hq _ W' H' g s' ⟨rfl, okS_ok hz⟩
    · exact hq.elim
theorem ev_joined1 {f : M D} (h : EvF B e f) : EvF B (.JoinedStr [e] pos) f := let ⟨t, p, h⟩ := h; ⟨t, pe_joined1 p, h⟩
end
end DL
end
section
set_option maxRecDepth 100000
set_option maxHeartbeats 1000000
/-! DL16: own exceptions over ValueError whose __init__ says super().__init__(text), self.value = value -/
namespace DL
open PySem PySem.Spec L2
open PyProof.Rows hiding St

/-! ### the bound __init__ of ValueError -/
section
open PySem.W
variable {prog : Program} {w : World} {A : Around} {E : Value → Shared → Prop} {h : Heap} {g : Array GenState} {d : Drawn} {t : Nat} {os : OsState}
variable {nm q : Str} {C N : Addr} {bs bm : List Value} {hdct : Bool} {sn : List Str} {sub : List Value} {ab : Bool} {col : Option Bool} {dd : Option Addr} {k0 k1 k2 k3 k5 : Option Value}
theorem call_bwV {u e t0 : Addr} {rest : List Value} {Q : Value → Shared → Prop}
    (hC : h.get? C = some (excClassObj nm q C N bs bm hdct sn sub ab col dd k0 k1 k2 k3 k5 "ValueError.__new__")) (he : h.get? e = some (HandSPX.excO C t0)) (hu : h.get? u = some (kxs_mw "ValueError.__init__" e)) (hrest : rest.length ≤ sizeLine)
    (hq : ∀ h' t1, (∀ b o, b ≠ e → h.get? b = some o → h'.get? b = some o) → h'.get? e = some (HandSPX.excO C t1) → Q .none ⟨h', g, d, t, os⟩) :
    wpAny (model prog w) A (call (.ref u) rest) Q E ⟨h, g, d, t, os⟩ := by
  refine wpAny_call (codeAny_of_tree ?_)
  show wpAny _ A.in1 (callAny (.ref u) ⟨rest, []⟩) _ _ _
  simp only [callAny]
  refine wpAny_bind (wpAny_load hu ?_)
  simp only [kxs_mw, show (Value.type "method-wrapper" == Value.type "method" || Value.type "method-wrapper" == Value.type "builtin_function_or_method" || Value.type "method-wrapper" == Value.type "method-wrapper") = true by decide, if_true]
  refine W.KFB.if_so (by decide) ?_
  refine wpAny_bind (ESX.check_bound F.excBase_ValueError hC he rfl ?_)
  refine wpAny_bind (wpAny_pure (wpAny_pure ?_))
  refine ⟨Code.quiet_builtin _ (by decide +kernel), codeAny_builtin F.excBase_ValueError.initEntry ?_⟩
  rw [Around.under_plainId F.excBase_ValueError.init.plain _]
  wp_walk
  refine hq _ h.objs.size (fun b o hb ho => ?_) ?_
  · rw [Heap.get?_update_other _ _ (Ne.symm hb)]
    exact Heap.get?_push_of_some _ ho
  · rw [Heap.get?_update_self _ (Heap.get?_push_of_some _ he) rfl]
    rfl
end

/-! ### what K says -/
/-- the class D whose __init__ is at fI: its closure's cell at cc -/
structure SupK (P : Program) (K : PySem.W.Frag) (D fI cc : Addr) (F : NdefX.NF) : Prop where
  fn : ∃ (oc : Value) (od : Option Addr) (osl : Array (Option Value)) (doc pm ct : Value), K.lookup fI = some ⟨oc, od, .func (F.fd doc pm ct), osl⟩
  cl : F.cl = [(("__class__" : Str), cc)]
  code : PySem.W.codeIn K (.ref F.c) F.qual = true
  file : ∃ ccl cdd vs ccs file tf, K.lookup F.c = some ⟨ccl, cdd, .fields vs, ccs⟩ ∧ vs[2]? = some (.str file tf) ∧ ((P.main.file : Str) == file) = true
  cell : ∃ cl cld csl, K.lookup cc = some ⟨cl, cld, .cell (some (.ref D)), csl⟩
  isD : ∃ cd, PySem.W.clsIn K D = some cd
  top : (P.main.scope.names.lookup ("super" : Str)).isSome = false
  statics : PySem.W.nsIn K cStatics "thirdparty.any" = some none
  typ : PySem.W.typeIn K (.ref fI) = some (.type "function")
/-- a class C under D -/
structure UndK (K : PySem.W.Frag) (D fI C : Addr) : Prop where
  oex : OexC K C
  mro : PySem.W.mroIn K C (.ref D) = some true
  sup : PySem.W.ks_superIn K C D "__init__" = some (some (.builtin "ValueError.__init__"))
  isV : PySem.W.subIn K (.ref C) (.type "ValueError") = some true
  init : PySem.W.findIn K (.ref C) "__init__" = some (some (.ref fI))
  val : PySem.W.findIn K (.ref C) "value" = some none

/-- the promise of __init__ -/
def spInit (K : PySem.W.Frag) (D fI : Addr) : Sp := fun vs H Q _ => ∃ (a C : Addr) (v : V), vs = [.ref a, v] ∧ UndK K D fI C ∧ H a = some (exo a C none) ∧
  ∀ dx, H dx = none → dx ≠ a → Q .non (upd (upd H dx (exd dx [("value", v)])) a (exo a C (some dx)))

/-- super().__init__(m) -/
theorem super_stmt {X : Cx} {σ : St} {H : Hp} {s : Shared} {D fI cc a C : Addr} {F : NdefX.NF} {m : Str} {j : Nat} {p0 p1 p2 ap cp ep : Pos} {body : List Stmt} {mL : Str → Option Value} {ar : Arg} {rr : List Arg} {oc : Value} {od : Option Addr} {osl : Array (Option Value)} {doc pm ct : Value}
    (I : Inv X [] σ H s) (S : SupK X.prog X.K D fI cc F) (U : UndK X.K D fI C) (lk : X.K.lookup fI = some ⟨oc, od, .func (F.fd doc pm ct), osl⟩) (hpar : F.params.posonlyargs ++ F.params.args = ar :: rr) (hself : ar.arg = "self")
    (hks : X.env.kindOf "super" = some .globalImplicit) (hkc : X.env.kindOf "__class__" = some .free) (hka : X.env.kindOf "self" = some .local) (hfu : X.env.func = some fI) (hco : X.env.code = .ref F.c) (hce : X.env.cells.lookup ("__class__" : Str) = some cc)
    (ms : X.mg "super" = none) (hns : s.heap.Ns X.env.locals mL) (hmL : mL "self" = some (.ref a)) (ea : H a = some (exo a C none)) (hm : m.length ≤ sizeLine) (hi : interactive X.env = false) (pl : Sem Bool)
    (hev : eval (.Call (.Attribute (.Call (.Name "super" p0) [] [] p1) "__init__" ap) [.Constant (.str m) j p2] [] cp) X.env = (do
      let ov ← attributeBase (.Call (.Name "super" p0) [] [] p1) "__init__" X.env (eval (.Call (.Name "super" p0) [] [] p1) X.env)
      standAt ap.atName
      let (f, first) ← holding [ov] (getMethod ov "__init__" pl)
      callWith cp f first (backTo cp (starEach [.Constant (.str m) j p2] X.env)) [])) :
    _root_.PySem.wpAt (model X.prog X.w) X.A (.func body X.env) (exec (.Expr (.Call (.Attribute (.Call (.Name "super" p0) [] [] p1) "__init__" ap) [.Constant (.str m) j p2] [] cp) ep) X.env) (fun f s' => f = .next ∧ Inv X [] σ H s') X.xe s := by
  obtain ⟨ccl, cld, csl, hcell⟩ := S.cell
  obtain ⟨cdD, hD⟩ := S.isD
  obtain ⟨fcl, fdd, fvs, fcs, file, tf, hcode, hfv, hfile⟩ := S.file
  obtain ⟨nmC, qC, NC, bsC, bmC, snC, subC, abC, colC, ddC, c0, c1, c2, c3, c5, hC, hbm⟩ := U.oex.cls
  refine PySem.ks_wpAt_Expr_any (PySem.ks_wpAt_MethodCall (pl := pl) ?_ hev) hi
  refine PySem.ks_wpAt_super_base (of := ⟨oc, od, .func (F.fd doc pm ct), osl⟩) (fd := F.fd doc pm ct) (ar := ar) hks hkc (by decide) hfu (I.kIn _ _ lk) rfl (by show (F.params.posonlyargs ++ F.params.args).head? = _; rw [hpar]; rfl) hco (I.kIn _ _ hcode) rfl hfv hfile S.top ?_
  obtain ⟨mb, hb1, hb2⟩ := I.mod.blt
  refine PySem.W.ks_loadName_global I.ok.kind hks (Calls.loadGlobal_builtin (by rw [I.ok.glob]; exact I.mod.glob.keeps I.bk) ms (by rw [I.ok.blt]; exact hb1.keeps I.bk) ((hb2 _ (by decide)).trans PyProof.Rows.Boot.«super») ⟨rfl, ?_⟩)
  refine wpAny_loadName_free I.ok.kind hkc hce (v := .ref D) ⟨_, I.kIn _ _ hcell, rfl⟩ ?_
  rw [hself]
  refine wpAny_loadName_local I.ok.kind hka hns hmL ?_
  obtain ⟨oD, hD1, hD2⟩ : ∃ oD, s.heap.get? D = some oD ∧ oD.data = .cls cdD := by
    unfold PySem.W.clsIn at hD
    split at hD
    · rename_i c d cd' sl ho
      cases hD
      exact ⟨_, I.kIn _ _ ho, rfl⟩
    · cases hD
  obtain ⟨t0, hx⟩ := exo_at I.hok ea
  obtain ⟨hp, g, dr, tk, os⟩ := s
  refine PySem.ks_wpAny_isType_cls hD1 hD2 ⟨rfl, ?_⟩
  refine PySem.ks_wpAny_call_super hD1 hD2 hx rfl (fun c e => by cases e) (PySem.W.looks_mroIn I.kIn U.mro) (fun h2 hso k2 => ?_)
  -- the method
  have I2 : Inv X [] σ H ⟨h2, g, dr, tk, os⟩ := I.kept (t' := tk) k2
  obtain ⟨t1, hx2⟩ := exo_at I2.hok ea
  have hcl : PySem.W.clsIn X.K C = some { name := nmC, bases := bsC, mro := .ref C :: bmC, ns := NC, qualname := qC, hasDict := true, slotNames := snC, subclasses := subC, abstract := abC, collection := colC, hasDel := false } := by unfold PySem.W.clsIn; rw [hC] <;> rfl
  have IA : PySem.W.InstAt h2 a (HandSPX.excO C t1) C none := ⟨hx2, rfl, rfl, trivial⟩
  have hsup := U.sup
  unfold PySem.W.ks_superIn at hsup
  rw [hcl] at hsup
  have hI : PySem.W.Looks (model X.prog X.w) h2 (isInstance (.ref a) (.type "ValueError")) true := IA.type.andThen (PySem.W.looks_subIn I2.kIn U.isV)
  refine PySem.W.kxs_getMethod PySem.W.kxs_ValueError hso (PySem.W.looks_opaque I2.kIn S.statics) (l₀ := .ref C :: bmC) ((PySem.W.looks_clsIn I2.kIn hcl).andThen .now) rfl I2.kIn hsup hI (PySem.W.ks_ne I2.kIn IA hcl) (by decide) ?_
  -- its call
  have I3 : Inv X [] σ H ⟨h2.push (PySem.W.kxs_mw "ValueError.__init__" a), g, dr, tk + 1, os⟩ := I2.kept (t' := tk + 1) fun b o e => Heap.get?_push_of_some _ e
  have hu : (h2.push (PySem.W.kxs_mw "ValueError.__init__" a)).get? h2.objs.size = some (PySem.W.kxs_mw "ValueError.__init__" a) := Heap.get?_push_size _ rfl
  have I4 : Inv X [(h2.objs.size, PySem.W.kxs_mw "ValueError.__init__" a)] σ H ⟨h2.push (PySem.W.kxs_mw "ValueError.__init__" a), g, dr, tk + 1, os⟩ := I3.pins_of fun p hp => by
    have e : p = (h2.objs.size, PySem.W.kxs_mw "ValueError.__init__" a) := by simpa using hp
    subst e
    exact ⟨hu, I2.hok.fresh (Nat.le_refl _), Nat.ne_of_gt I2.lt, I2.nofs (Nat.le_refl _), fun v z => by cases z⟩
  have PA1 : PA X [.Constant (.str m) j p2] _ := pa_cons pe_str pa_nil
  refine PySem.W.kxs_callWith (i := "ValueError.__init__") (x := a) rfl (Calls.evalArgs_plain (thn (PA1.run cp _ _ σ H (fun vs H' => vs.length = 1 ∧ H' = H) I4 ⟨rfl, rfl⟩) fun us s5 ⟨vs, H5, I5, r5, l5, e5⟩ => ?_))
  subst e5
  have hu5 : s5.heap.get? h2.objs.size = some (PySem.W.kxs_mw "ValueError.__init__" a) := (I5.pin (h2.objs.size, PySem.W.kxs_mw "ValueError.__init__" a) (by simp)).1
  refine ⟨hu5, ?_⟩
  obtain ⟨t5, hx5⟩ := exo_at I5.hok ea
  have I6 : Inv X [] σ H5 s5 := I5.pins_of fun p hp => by cases hp
  obtain ⟨hp5, g5, d5, tk5, os5⟩ := s5
  refine call_bwV (I6.kIn _ _ hC) hx5 hu5 (by
    show ([] ++ us : List Value).length ≤ sizeLine
    rw [List.nil_append, ← r5.length, l5]
    decide) fun h7 t7 k7 hx7 => ⟨rfl, ?_⟩
  have J := I6.write (t' := tk5) (x := a) (e := a) (o := exo a C none) (by rw [ea]; exact True.intro) (.inl rfl) k7 ⟨_, hx7⟩ (exo_ok hx7)
  have eu : upd H5 a (exo a C none) = H5 := by
    funext b
    by_cases hb : b = a
    · rw [hb, upd_same, ea]
    · rw [upd_ne hb]
  rw [eu] at J
  exact J

section
variable {P : Program} {w : World} {K : PySem.W.Frag} {mg : Str → Option Value} {base : Heap} {D fI cc : Addr} {F : NdefX.NF} {m : Str} {j : Nat} {p0 p1 p2 ap cp ep q0 q1 q2 q3 : Pos}
theorem init_fn (S : SupK P K D fI cc F) (hb : F.body = [.Expr (.Call (.Attribute (.Call (.Name "super" p0) [] [] p1) "__init__" ap) [.Constant (.str m) j p2] [] cp) ep, .Assign [.Attribute (.Name "self" q0) "value" q1] (.Name "value" q2) q3])
    (hp : ∃ ar r, F.params.posonlyargs ++ F.params.args = ar :: r ∧ ar.arg = "self") (N : NdefX.NScope ["self", "value", "__class__"] ["self", "value"] ["__class__"] F.scope) (hsup : F.scope.names.lookup ("super" : Str) = some .globalImplicit) (ms : mg "super" = none) (hm : m.length ≤ sizeLine)
    (hin : ∀ (e : Env), e.scope = F.scope → interactive e = false) (pl : Env → Sem Bool)
    (hev : ∀ (env : Env), env.scope = F.scope → eval (.Call (.Attribute (.Call (.Name "super" p0) [] [] p1) "__init__" ap) [.Constant (.str m) j p2] [] cp) env = (do
      let ov ← attributeBase (.Call (.Name "super" p0) [] [] p1) "__init__" env (eval (.Call (.Name "super" p0) [] [] p1) env)
      standAt ap.atName
      let (f, first) ← holding [ov] (getMethod ov "__init__" (pl env))
      callWith cp f first (backTo cp (starEach [.Constant (.str m) j p2] env)) []))
    {doc pm ct : Value} {oc : Value} {od : Option Addr} {osl : Array (Option Value)} (lk : K.lookup fI = some ⟨oc, od, .func (F.fd doc pm ct), osl⟩) :
    FnOk P w K mg base (L2.CX P w) 1 fI (F.fd doc pm ct) ["self", "value"] (spInit K D fI) := by
  have len : ∀ vs H Q E, spInit K D fI vs H Q E → vs.length = (["self", "value"] : List Str).length := fun vs H Q E ⟨a, C, v, e, _⟩ => by rw [e]; rfl
  refine ⟨len, fun A outer s H args us vs Q E hr e0 hbi r hsp => ?_⟩
  have KX : K.In s.heap := e0.mod.kin.keeps fun b o e => (e0.bs b o e).1
  have lim : s.heap.NoLimit := e0.mod.nolimit.keeps fun b o e => (e0.bs b o e).1
  obtain ⟨a, C, v, rfl, U, ea, hQ⟩ := hsp
  obtain ⟨u1, u2, rfl, r1, r2⟩ := r.two
  obtain rfl : u1 = Value.ref a := r1
  obtain ⟨ccl, cld, csl, hcell⟩ := S.cell
  obtain ⟨ar, rr, hpar, hself⟩ := hp
  have hcl := S.cl
  have bcc : base.get? cc = some ⟨ccl, cld, .cell (some (.ref D)), csl⟩ := e0.mod.kin _ _ hcell
  have one : ∀ {y : Str} {c : Addr}, ([(("__class__" : Str), cc)] : List (Str × Addr)).lookup y = some c → y = "__class__" ∧ c = cc := fun {y c} e => by
    rw [List.lookup_cons] at e
    split at e
    · rename_i h
      cases e
      exact ⟨beq_iff_eq.mp h, rfl⟩
    · cases e
  have CA : NdefX.CellsAt F.cl ["__class__"] [some (.ref D)] s.heap H := by
    refine ⟨rfl, fun y c e => ?_, fun x y c e1 e2 => ?_, fun i y e => ?_⟩
    · rw [hcl] at e
      obtain ⟨_, rfl⟩ := one e
      exact ⟨(e0.bs _ _ bcc).2, _, _, (e0.bs _ _ bcc).1, rfl⟩
    · rw [hcl] at e1 e2
      rw [(one e1).1, (one e2).1]
    · cases i with
      | zero =>
        have : y = "__class__" := by simpa using e.symm
        subst this
        refine ⟨cc, by rw [hcl]; rfl, fun v ev => ?_⟩
        have : v = .ref D := by simpa using ev.symm
        subst this
        exact ⟨.ref D, rfl, _, (e0.bs _ _ bcc).1, rfl⟩
      | succ i => simp at e
  have hpar2 : ∀ x ∈ (["self", "value"] : List Str).zip [Value.ref a, u2], F.scope.names.lookup x.1 = some .local := fun ⟨n, x⟩ hx => N.par n (List.of_mem_zip hx).1
  refine PySem.ks_codeAny_call_defAt (fd := F.fd doc pm ct) (body := F.body) (binds := (["self", "value"] : List Str).zip [Value.ref a, u2]) hr.depth (KX _ _ lk) rfl lim (PySem.W.codeRec_of KX S.code) rfl hbi N.nocell hpar2 (fun h₁ hns kp => ?_) N.co N.gen N.kind
  have I : Inv (NdefX.ncx (L2.CX P w) P w K mg base ["self", "value", "__class__"] F fI A outer s H E) [] (NdefX.startF ["self", "value", "__class__"] [.ref a, v] [some (.ref D)]) H { s with heap := h₁, toks := s.toks + ((["self", "value"] : List Str).zip [Value.ref a, u2]).length } :=
    NdefX.inv_startN N hr.hd e0 rfl (.cons rfl (.cons r2 .nil)) CA hns kp
  generalize hX : NdefX.ncx (L2.CX P w) P w K mg base ["self", "value", "__class__"] F fI A outer s H E = X at I
  have eA : X.A = A.deeper (callEnv (F.fd doc pm ct) s.heap.objs.size fI) := by rw [← hX]; rfl
  have eE : X.env = callEnv (F.fd doc pm ct) s.heap.objs.size fI := by rw [← hX]; rfl
  have eP : X.prog = P := by rw [← hX]; rfl
  have eW : X.w = w := by rw [← hX]; rfl
  have eK : X.K = K := by rw [← hX]; rfl
  have eM : X.mg = mg := by rw [← hX]; rfl
  have eN : X.N = (["self", "value", "__class__"] : List Str) := by rw [← hX]; rfl
  have sc : X.env.scope = F.scope := by rw [← hX]; rfl
  have eX : X.xe = fun e s' => wpAny (model P w) X.A (leaving X.env e) (fun _ s'' => CR (L2.CX P w) outer P w H s Q E (.error e) s'') (fun e' s'' => CR (L2.CX P w) outer P w H s Q E (.error e') s'') s' := by rw [← hX]; rfl
  have fin : ∀ {σ' : St} {H' : Hp} {s' : Shared}, Inv X [] σ' H' s' → Q .non H' → CE outer P w H s Q .none s' := by
    intro σ' H' s' J q
    rw [← hX] at J
    exact ⟨.non, H', J.os, J.bare, J.base, J.hok, rfl, q⟩
  rw [← eA, ← eE, ← eX, ← eP, ← eW]
  rw [← eP, ← eW] at fin
  rw [← eP] at S
  rw [← eK] at S U lk
  rw [hb]
  have k1 : X.env.kindOf "super" = some .globalImplicit := by show X.env.scope.names.lookup _ = _; rw [sc]; exact hsup
  have k2 : X.env.kindOf "__class__" = some .free := by show X.env.scope.names.lookup _ = _; rw [sc]; exact N.frk _ (by simp)
  have k3 : X.env.scope.names.lookup ("self" : Str) = some .local := by rw [sc]; exact N.par _ (by simp)
  have k4 : X.env.scope.names.lookup ("value" : Str) = some .local := by rw [sc]; exact N.par _ (by simp)
  refine PySem.ks_wpAt_execs_cons (PySem.ks_wpAt_mono (super_stmt (F := F) (pl := pl X.env) I S U lk hpar hself k1 k2 k3 (by rw [eE]; rfl) (by rw [eE]; rfl) (by rw [eE]; show F.cl.lookup _ = _; rw [hcl]; rfl) (by rw [eM]; exact ms) (by rw [eE]; exact hns) rfl ea hm (hin _ sc) (hev _ sc)) (fun f s' ⟨ef, J⟩ => ?_) fun _ _ z => z)
  subst ef
  have PO : PSs X [.Assign [.Attribute (.Name "self" q0) "value" q1] (.Name "value" q2) q3] _ := pss_one (ps_ost (pv 0 (by rw [eN]; rfl) (.inl k3)) (pv 1 (by rw [eN]; rfl) (.inl k4)))
  refine wpAt_of_wpAny (thn (PO.run [] s' _ H { nx := fun _ H' => Q .non H', rt := fun _ _ => False } J ⟨v, rfl, .ref a, rfl, a, C, rfl, U.oex, U.val, .inl ⟨ea, fun dx n ne => hQ dx n ne⟩⟩) fun f s2 q => ?_)
  cases f with
  | next =>
    obtain ⟨σ', H', J2, q⟩ := q
    exact fin J2 q
  | brk =>
    obtain ⟨_, _, _, q⟩ := q
    exact q.elim
  | cont =>
    obtain ⟨_, _, _, q⟩ := q
    exact q.elim
  | ret v =>
    obtain ⟨_, _, _, _, _, q⟩ := q
    exact q.elim
end
end DL
end
section
set_option maxRecDepth 100000
set_option maxHeartbeats 1000000
/-! DL17: raise, try; what a handler asks of the error -/
namespace PySem.W
open PySem PySem.Spec PySem.Calls PyProof.Rows
section
variable {prog : Program} {w : World} {A : Around} {E : Value → Shared → Prop} {s : Shared} {K : Frag} {x D : Addr} {ox : Obj} {od : Option Obj}
theorem dl_find {C : Addr} {name : Str} {a g : Value} (hc : (clsIn K C).isSome = true) (ha : findIn K (.ref C) name = some (some a)) (hg : specialIn K a "__get__" = some (some g)) (ht : takesIn K a = some true) : findObj K C od name = some (.bind g a) := by
  obtain ⟨cd, hc⟩ := Option.isSome_iff_exists.mp hc
  unfold findObj
  rw [hc, Option.bind_some, ha, Option.bind_some]
  simp [hg, ht]
theorem dl_class {Q : Option Value → Shared → Prop} (C : L2.ExcC K D) (X : K.In s.heap) (I : InstAt s.heap x ox D od) (h : Q (some (.ref D)) { s with toks := s.toks + 1 }) : wpAny (model prog w) A (getAttr? (.ref x) "__class__") Q E s := by
  obtain ⟨hga, hgt, hsub, hdct, ha, hn, htk, hm⟩ := C
  have hf : findObj K D od "__class__" = some (.bind (.builtin "getset_descriptor.__get__") (.builtin "object.__class__")) := dl_find (by obtain ⟨cd, hc, _⟩ := any_some hdct; rw [hc]; rfl) ha hn htk
  obtain ⟨hp, g, d, t, os⟩ := s
  have L0 := I.type (M := model prog w)
  have L1 := looks_findIn (M := model prog w) X hga
  have L2 := looks_findIn (M := model prog w) X hgt
  have L3 := looks_find (M := model prog w) X I hf
  have sub : Looks (model prog w) hp (isInstance (.ref x) (.type "BaseException")) true := L0.andThen (looks_subIn X hsub)
  have hx2 : (Value.builtin "BaseException.__getattribute__" == Value.builtin "object.__getattribute__") = false := by decide +kernel
  have hx1 : (onTheHeap (Value.ref D) && Value.builtin "BaseException.__getattribute__" == Value.builtin "object.__getattribute__") = false := by rw [hx2]; rfl
  unfold getAttr? getAttrBy? getAttrBy
  refine wpAny_bind (wpAny_mkText (wpAny_bind (wpAny_attempt (wpAny_holding (wpAny_bind (L0.at (wpAny_bind (L1.at ?_))))))))
  show wpAny _ _ (if (onTheHeap (Value.ref D) && Value.builtin "BaseException.__getattribute__" == Value.builtin "object.__getattribute__") = true then _ else _) _ _ _
  rw [hx1, if_neg Bool.false_ne_true]
  unfold getAttrByItsOwn hookBefore
  refine wpAny_bind ?_
  rw [if_pos (show onTheHeap (Value.ref D) = true from rfl)]
  refine L2.at (wpAny_bind (wpAny_attempt (wpAny_holding ?_)))
  unfold callGetattribute
  rw [show (false && onTheHeap (Value.builtin "BaseException.__getattribute__")) = false from rfl, if_neg Bool.false_ne_true]
  unfold boundAndCalled
  rw [PySem.F.excAttr_ValueError.ga.bind (.ref x)]
  refine wpAny_bind (wpAny_pure ?_)
  show wpAny _ _ (call (.builtin "BaseException.__getattribute__") [.ref x, .str "__class__" t]) _ _ _
  refine wpAny_call (codeAny_call_builtin PySem.F.excAttr_ValueError.ga.plain PySem.F.entry_bexc_ga ?_)
  refine @check_slot (model prog w) _ _ ⟨hp, g, d, t + 1, os⟩ "BaseException.__getattribute__" "BaseException" "__getattribute__" (.ref x) [.str "__class__" t] [] _ (by decide +kernel) (by decide +kernel) sub (PySem.F.args_bexc_ga (.ref x) (.str "__class__" t)) ?_
  unfold Builtin.«object.__getattribute__»
  refine wpAny_bind (wpAny_of_eq (a := ((Value.ref x : Value), [Value.str "__class__" t])) (by first | rfl | (simp only [slotArgs]; rfl)) ?_)
  refine wpAny_bind (wpAny_pure (wpAny_bind (L0.at (wpAny_bind (L3.at ?_)))))
  show wpAny _ _ (holding [Value.builtin "object.__class__"] (call (.builtin "getset_descriptor.__get__") [.builtin "object.__class__", .ref x, .ref D]) >>= ret) _ _ _
  refine wpAny_bind (wpAny_holding (wpAny_call (class_get (s := ⟨hp, g, d, t + 1, os⟩) (ox := ox) (od := od) X I hm ?_)))
  refine wpAny_pure ?_
  show wpAny _ _ (handedOut (.ref D)) _ _ _
  rw [handedOut_of (v := .ref D) rfl]
  first
    | exact wpAny_pure (wpAny_pure h)
    | exact wpAny_pure h
    | exact wpAny_pure (wpAny_bind (wpAny_pure (wpAny_pure h)))
theorem dl_kit (C : L2.ExcC K D) : KitX K (.ref x) (.ref D) (fun h => InstAt h x ox D od) where
  ty := fun _ _ _ I => I.type
  it := fun _ _ X _ => by
    obtain ⟨cdD, hcD, _⟩ := any_some C.hd
    unfold clsIn at hcD
    split at hcD
    · rename_i c' d' cd' sl' ho
      intro A' Q' E' s' k q
      unfold isType loadHead
      exact wpAny_bind (wpAny_loadPart (k _ _ (X _ _ ho)) (wpAny_pure q))
    · cases hcD
  ne := fun h tp dd its n sl X htp => by
    obtain ⟨cdD, hcD, _⟩ := any_some C.hd
    refine Bool.eq_false_iff.mpr fun q => ?_
    have e : D = tp := Value.ref.inj (beq_iff_eq.mp q)
    subst e
    unfold clsIn at hcD
    split at hcD
    · rename_i c' d' cd' sl' ho
      have z := (X _ _ ho).symm.trans htp
      cases z
    · cases hcD
  ca := fun X I k => dl_class C X I k
end
end PySem.W
namespace DL
open PySem PySem.Spec L2
open PyProof.Rows hiding St

/-- flat: every class stands under SightError -/
def isSub (k l : Str) : Bool := k == l || l == "SightError"
/-- the error classes xs -/
structure ExcK (P : Program) (w : World) (K : PySem.W.Frag) (mg : Str → Option Value) (base : Heap) (xs : List Str) : Prop where
  ini : ∃ fI fd, FnOk P w K mg base (L2.CX P w) 1 fI fd ["self", "value"] (spInit K (He.ga K "SightError") fI) ∧ Binds K fd ["self", "value"] [] ∧ PySem.W.typeIn K (.ref fI) = some (.type "function") ∧ ∀ k ∈ xs, UndK K (He.ga K "SightError") fI (He.ga K k)
  glo : ∀ k ∈ xs, mg k = some (.ref (He.ga K k))
  gloD : mg "SightError" = some (.ref (He.ga K "SightError"))
  exm : ∀ k ∈ xs, ∀ l, l ∈ xs ∨ l = "SightError" → PySem.W.exmOne K (.ref (He.ga K k)) (.ref (He.ga K l)) = some (isSub k l)
  kit : ∀ k ∈ xs, ∀ l, l ∈ xs ∨ l = "SightError" → PySem.W.kitOne K (.ref (He.ga K k)) (.ref (He.ga K l)) = some (isSub k l)
  exc : ∀ k ∈ xs, ExcC K (He.ga K k)
theorem ExcK.name {P : Program} {w : World} {K : PySem.W.Frag} {mg : Str → Option Value} {base : Heap} {xs : List Str} (E : ExcK P w K mg base xs) {l : Str} (h : l ∈ xs ∨ l = "SightError") : mg l = some (.ref (He.ga K l)) := by
  rcases h with h | rfl
  · exact E.glo l h
  · exact E.gloD

/-! ### raise -/
def lRaise (k : Str) (f : M D) : M Fl := fun env => match f env with
  | .ok d env' => .ex k d env'
  | .bad => .bad
  | .ex c d env' => .ex c d env'
section
variable {B : Bx} {e : Expr} {x : Str} {p pos rpos : Pos} {k : Nat} {xs : List Str}
theorem xend_eq {H1 : Hp} {a dx C : Addr} {v : V} (ha : H1 a = none) (hd : H1 dx = none) (ne : dx ≠ a) :
    upd (del (upd (upd (upd H1 a (exo a C none)) dx (exd dx [("value", v)])) a (exo a C (some dx))) a) dx (.xd [("value", v)]) = upd H1 dx (.xd [("value", v)]) := by
  funext b
  by_cases hb : b = dx
  · rw [hb, upd_same, upd_same]
  · rw [upd_ne hb, upd_ne hb]
    by_cases hc : b = a
    · rw [hc, del_same, ha]
    · rw [del_ne hc, upd_ne hc, upd_ne hb, upd_ne hc]
theorem es_raise {f : M D} (G : Gd B k) (hk : 2 ≤ k) (Z : ExcK B.X.prog B.X.w B.X.K B.X.mg B.X.base xs) (hx : x ∈ xs) (h : EvF B e f) (hg : Gl B.X x) (hdb : (x == ("__debug__" : Str)) = false := by decide +kernel)
    (he : starEach [e] B.X.env = (false, eval e B.X.env) :: starEach [] B.X.env := by rfl) (hpl : (backTo pos (starEach [] B.X.env)).any (·.1) = false := by rfl) : EvS B (.Raise (some (.Call (.Name x p) [e] [] pos)) none rpos) (lRaise x f) := by
  obtain ⟨t, pt, h⟩ := h
  obtain ⟨fI, fd, F1, hb, tI, U⟩ := Z.ini
  have Ux := U x hx
  have PA1 : PA B.X [e] (L2.tCons t L2.tNil) := pa_cons pt pa_nil he
  refine ⟨_, ps_raise G.calm G.tk (pmk_oex (dvs := []) (ds := []) Ux.oex Ux.init tI F1 (G.room.mono hk) hb .nil (passes_call G.tk fun _ _ _ _ z => z.elim) hg (Z.glo x hx) PA1 hdb he hpl), fun c W H σ env E hc s hq => ?_⟩
  refine h c W H σ env _ hc s ?_
  unfold lRaise at hq
  cases q : f env with
  | bad => rw [q] at hq; exact hq
  | ex k d env' => rw [q] at hq; exact hq.xp
  | ok d env' =>
    rw [q] at hq
    intro v W1 H1 g1 s1 r1
    refine ⟨by show 1 ≤ 1000; decide, fun a ha => ⟨a, He.ga B.X.K x, v, rfl, Ux, upd_same, fun dx hdx ne => ?_⟩⟩
    rw [upd_ne ne] at hdx
    refine ⟨rfl, dx, [("value", v)], upd_same, by rw [upd_ne ne, upd_same], hdx, ?_⟩
    rw [xend_eq ha hdx ne]
    have g2 : Go W1 H1 W1 (upd H1 dx (.xd [("value", v)])) := go_new s1 hdx
    exact hq _ _ σ W1 _ (g1.trans g2) (s1.new_ hdx) ⟨rfl, dx, v, rfl, upd_same, s1.nw hdx, r1.go g2⟩
end

/-! ### try -/
/-- the reading of a body: the same for every wish -/
def canS (K : PySem.W.Frag) (C : Cl → Prop) (Wx : WX) (f : M Fl) : TS := fun E σ H => ∃ c W env, C c ∧ SR K c W H σ env ∧ (f env).Is (fun fl env' => match fl with
    | .nx => ∀ σ' W' H', Go W H W' H' → SR K c W' H' σ' env' → E.nx σ' H'
    | .rt x => ∀ v σ' W' H', Go W H W' H' → SR K c W' H' σ' env' → RepE K c W' H' σ' env' x v → E.rt v H'
    | .bk => ∀ σ' W' H', Go W H W' H' → SR K c W' H' σ' env' → E.bk σ' H'
    | .ct => ∀ σ' W' H', Go W H W' H' → SR K c W' H' σ' env' → E.ct σ' H') (fun k d env' => ∀ cls dx σ' W' H', Go W H W' H' → SR K c W' H' σ' env' → xrep K W' H' k d cls dx → Wx cls dx σ' H')
theorem EvL.can {B : Bx} {sts : List Stmt} {f : M Fl} (hh : EvL B sts f) : PSs B.X sts (canS B.X.K B.C B.Wx f) := by
  obtain ⟨t, p, hh⟩ := hh
  refine ⟨fun pins s σ H E I ⟨c, W, env, hc, sr, q⟩ => p.run pins s σ H E I (hh c W H σ env E hc sr (q.imp (fun fl env' z => ?_) fun _ _ _ z => z))⟩
  cases fl with
  | nx => exact z
  | rt x => exact z
  | bk => exact z
  | ct => exact z
abbrev Bx.tr (B : Bx) (pn : List (Addr × Obj)) (xe : Value → Shared → Prop) (W : WX) : Bx := ⟨B.X.tr pn xe, W, B.C⟩
abbrev Bx.suite (B : Bx) (a : Addr) (oe : Obj) (pn : List (Addr × Obj)) (cls : Value) (d : Option Addr) : Bx := ⟨B.X.suite a ((a, oe) :: pn), fun _ _ _ _ => False, fun c => c.xa = a ∧ c.xcls = cls ∧ c.xd = d⟩
def noXc (env : En) : Bool := env.all fun x => match x with
  | .xc _ _ => false
  | _ => true
theorem SR.catch_ {K : PySem.W.Frag} {c : Cl} {W : Addr → Prop} {H : Hp} {σ : St} {env : En} (s : SR K c W H σ env) (h : noXc env = true) (a : Addr) (cls : Value) (d : Option Addr) : SR K { c with xa := a, xcls := cls, xd := d } W H σ env :=
  ⟨s.len, s.fz, s.ow, s.io, fun i k d q => (nomatch (show false = true from List.all_eq_true.mp h _ (List.mem_of_getElem? q))), s.sep, s.tr, s.sub, s.ioW, s.keep, s.new⟩
theorem SR.uncatch {K : PySem.W.Frag} {c : Cl} {W : Addr → Prop} {H : Hp} {σ : St} {env : En} {a : Addr} {cls : Value} {d : Option Addr} (s : SR K { c with xa := a, xcls := cls, xd := d } W H σ env) (h : noXc env = true) : SR K c W H σ env :=
  ⟨s.len, s.fz, s.ow, s.io, fun i k d q => (nomatch (show false = true from List.all_eq_true.mp h _ (List.mem_of_getElem? q))), s.sep, s.tr, s.sub, s.ioW, s.keep, s.new⟩
theorem SR.caught {K : PySem.W.Frag} {c : Cl} {W : Addr → Prop} {H : Hp} {σ : St} {env : En} {i : Nat} {k : Str} {d : D} (s : SR K c W H σ env) (hi : i < env.length) (x : xrep K W H k d c.xcls c.xd) : SR K c W H (σ.set i (some (.ref c.xa))) (env.set i (.xc k d)) := by
  have hσ : i < σ.length := by rw [← s.len]; exact hi
  have z := s.forget (i := i) (some (.ref c.xa))
  have old : ∀ (j : Nat) y, (env.set i (.xc k d))[j]? = some y → (j = i ∧ y = .xc k d) ∨ (j ≠ i ∧ (env.set i .no)[j]? = some y) := fun j y q => by
    by_cases e : j = i
    · subst e
      rw [List.getElem?_set_self hi] at q
      exact .inl ⟨rfl, (Option.some.inj q).symm⟩
    · rw [List.getElem?_set_ne (Ne.symm e)] at q
      exact .inr ⟨e, by rw [List.getElem?_set_ne (Ne.symm e)]; exact q⟩
  have mutb : ∀ j, IsMut (env.set i (.xc k d)) j → IsMut (env.set i .no) j := fun j ⟨d', m⟩ => by
    rcases m with m | m
    · rcases old j _ m with ⟨_, q⟩ | ⟨_, q⟩
      · cases q
      · exact ⟨d', .inl q⟩
    · rcases old j _ m with ⟨_, q⟩ | ⟨_, q⟩
      · cases q
      · exact ⟨d', .inr q⟩
  refine ⟨by simpa using s.len, fun j d' q => ?_, fun j d' q => ?_, fun j d' q => ?_, fun j k' d' q => ?_, fun j l b m1 m2 => z.sep j l b (mutb j m1) (mutb l m2), s.tr, s.sub, s.ioW, s.keep, s.new⟩
  · rcases old j _ q with ⟨_, q⟩ | ⟨_, q⟩
    · cases q
    · exact z.fz j d' q
  · rcases old j _ q with ⟨_, q⟩ | ⟨_, q⟩
    · cases q
    · exact z.ow j d' q
  · rcases old j _ q with ⟨_, q⟩ | ⟨_, q⟩
    · cases q
    · exact z.io j d' q
  · rcases old j _ q with ⟨e, q⟩ | ⟨_, q⟩
    · cases q
      subst e
      obtain ⟨h1, h2⟩ := x
      exact ⟨by unfold At; rw [List.getElem?_set_self hσ], h1, h2⟩
    · exact z.xc j k' d' q
/-- try: body / except l as slot i: suite -/
def lTry (xs : List Str) (l : Str) (i : Nat) (f g : M Fl) : M Fl := fun env => match f env with
  | .ex k d env1 => if xs.contains k then (if isSub k l then (if noXc env1 && decide (i < env1.length) then (match g (env1.set i (.xc k d)) with
      | .ok .nx env2 => if noXc (env2.set i .no) then .ok .nx (env2.set i .no) else .bad
      | .ok .bk env2 => if noXc (env2.set i .no) then .ok .bk (env2.set i .no) else .bad
      | .ok .ct env2 => if noXc (env2.set i .no) then .ok .ct (env2.set i .no) else .bad
      | .ok (.rt (.fz x)) env2 => if noXc (env2.set i .no) then .ok (.rt (.fz x)) (env2.set i .no) else .bad
      | _ => .bad) else .bad) else .ex k d env1) else .bad
  | r => r
section
variable {B : Bx} {x n : Str} {i k : Nat} {body suite : List Stmt} {b₀ : Stmt} {np pos pos' : Pos} {xs : List Str} {f g : M Fl}
theorem es_try (G : Gd B k) (hst : B.X.stack = B.X.env :: B.X.outer) (hfr : B.X.env.frame = some B.X.env.locals) (Z : ExcK B.X.prog B.X.w B.X.K B.X.mg B.X.base xs) (hx : x ∈ xs ∨ x = "SightError")
    (hb : ∀ W pn xe, Gd (B.tr pn xe W) k → EvL (B.tr pn xe W) body f) (hs : ∀ a oe pn cls d, Zc cls d oe → (∃ vs, oe.data = .fields vs) → EvL (B.suite a oe pn cls d) (b₀ :: suite) g) (hg : Gl B.X x)
    (hi : B.X.N[i]? = some n := by rfl) (hln : B.X.env.kindOf n = some .local := by rfl) (hdb : (x == ("__debug__" : Str)) = false := by decide +kernel) :
    EvS B (.Try body [.ExceptHandler (some (.Name x np)) (some n) (b₀ :: suite) pos'] [] [] pos) (lTry xs x i f g) := by
  refine ⟨_, ps_try_as (tb := fun W => canS B.X.K B.C W f) (ts := fun a cls d => canS B.X.K (fun c => c.xa = a ∧ c.xcls = cls ∧ c.xd = d) (fun _ _ _ _ => False) g) hst hfr G.nd hi hln ⟨hg, hdb, .inl (Z.name hx)⟩ G.tk
    (fun W pn xe tk po => (hb W pn xe ⟨G.calm, G.room, G.gd, tk, po, G.nd, G.cl⟩).can) (fun a oe cls d pn hz hv => (hs a oe pn cls d hz hv).can), fun c W H σ env E hc s hq => ?_⟩
  refine ⟨c, W, env, hc, s, ?_⟩
  unfold lTry at hq
  cases q : f env with
  | bad => rw [q] at hq; exact hq
  | ok fl env1 =>
    rw [q] at hq
    cases fl with
    | nx => exact hq
    | rt x => exact hq
    | bk => exact hq
    | ct => exact hq
  | ex k d env1 =>
    rw [q] at hq
    dsimp only at hq
    intro cls dx σ1 W1 H1 g1 s1 xr
    by_cases hk : xs.contains k = true
    · rw [if_pos hk] at hq
      have hk' : k ∈ xs := List.elem_iff.mp hk
      have hc' : cls = .ref (He.ga B.X.K k) := xr.1
      refine ⟨isSub k x, by rw [hc']; exact Z.exm k hk' x hx, fun hy a ha => ?_, fun hn => ?_⟩
      · rw [if_pos hy] at hq
        by_cases hn : (noXc env1 && decide (i < env1.length)) = true
        · rw [if_pos hn] at hq
          rw [Bool.and_eq_true, decide_eq_true_eq] at hn
          have s2 := (s1.catch_ hn.1 a cls dx).caught hn.2 xr
          refine ⟨_, W1, env1.set i (.xc k d), ⟨rfl, rfl, rfl⟩, s2, ?_⟩
          cases q2 : g (env1.set i (.xc k d)) with
          | bad => rw [q2] at hq; exact hq.elim
          | ex _ _ _ => rw [q2] at hq; exact hq.elim
          | ok fl env2 =>
            rw [q2] at hq
            cases fl with
            | nx =>
              dsimp only at hq
              split at hq
              · rename_i h3
                exact fun σ' W' H' g' s' => hq _ W' H' (g1.trans g') ((s'.forget none).uncatch h3)
              · exact hq.elim
            | bk =>
              dsimp only at hq
              split at hq
              · rename_i h3
                exact fun σ' W' H' g' s' => hq _ W' H' (g1.trans g') ((s'.forget none).uncatch h3)
              · exact hq.elim
            | ct =>
              dsimp only at hq
              split at hq
              · rename_i h3
                exact fun σ' W' H' g' s' => hq _ W' H' (g1.trans g') ((s'.forget none).uncatch h3)
              · exact hq.elim
            | rt y =>
              cases y with
              | fz y =>
                dsimp only at hq
                split at hq
                · rename_i h3
                  exact fun v σ' W' H' g' s' r' => hq v _ W' H' (g1.trans g') ((s'.forget none).uncatch h3) r'
                · exact hq.elim
              | _ => exact hq.elim
        · rw [if_neg hn] at hq
          exact hq.elim
      · rw [if_neg (by rw [hn]; exact Bool.false_ne_true)] at hq
        exact hq cls dx σ1 W1 H1 g1 s1 xr
    · rw [if_neg hk] at hq
      exact hq.elim
end
end DL
end
section
set_option maxRecDepth 100000
set_option maxHeartbeats 1000000
/-! DL18: what a handler asks of the error -/
namespace DL
open PySem PySem.Spec L2
open PyProof.Rows hiding St

def dXval (xs : List Str) (i : Nat) : M D := fun env => match env[i]? with
  | some (.xc k d) => if xs.contains k then .ok d env else .bad
  | _ => .bad
def dXis (xs : List Str) (l : Str) (i : Nat) : M D := fun env => match env[i]? with
  | some (.xc k _) => if xs.contains k then .ok (.bool (isSub k l)) env else .bad
  | _ => .bad
def rIsX (K : PySem.W.Frag) (D a : Addr) (d : Option Addr) : List V → Hp → VK → Prop := fun xs H Q => ∃ (c : Addr) (b : Bool) (dd : Addr) (fs : List (Str × V)), xs = [.ref a, .ref c] ∧ d = some dd ∧ H dd = some (.xd fs) ∧ PySem.W.kitOne K (.ref D) (.ref c) = some b ∧ Q (.bl b) H
theorem call_isX {X : Cx} {a D : Addr} {oe : Obj} {pn : List (Addr × Obj)} {d : Option Addr} (C : ExcC X.K D) (hz : Zc (.ref D) d oe) (hf : ∃ vs, oe.data = .fields vs) : CallR (X.suite a ((a, oe) :: pn)) (.builtin "isinstance") (rIsX X.K D a d) := by
  rintro pins s σ H xs us Q I r ⟨c, b, dd, fs, rfl, rfl, hd, e, q⟩
  obtain ⟨u1, u2, rfl, r1, r2⟩ := r.two
  cases r1
  cases r2
  obtain ⟨hget, _⟩ := I.pin (a, oe) (List.mem_append.mpr (.inl List.mem_cons_self))
  obtain ⟨vs, hv⟩ := hf
  have hx : ObjOk X.prog X.w H s.heap dd (.xd fs) := I.hok dd _ hd
  obtain ⟨mA, hns, hr⟩ := hx
  obtain ⟨od, ho, hl⟩ := lookIn_ns hns
  have J : PySem.W.InstAt s.heap a oe D (some od) := ⟨hget, hz.1, by unfold PySem.W.notCls; rw [hv] <;> rfl, by rw [hz.2]; exact ho⟩
  exact PySem.W.kia_one (PySem.W.dl_kit C) I.kIn J e (fun z => nomatch z) fun tk => ⟨.bl b, H, I.kept (t' := tk) fun _ _ z => z, rfl, q⟩
theorem pe_never {X : Cx} {e : Expr} : PE X e (fun _ _ _ => False) := ⟨fun _ _ _ _ _ _ h => h.elim⟩
section
variable {B : Bx} {a : Addr} {oe : Obj} {pn : List (Addr × Obj)} {cls : Value} {d : Option Addr} {xs : List Str} {n x : Str} {p p1 p2 pos : Pos}
theorem ev_xval (Z : ExcK B.X.prog B.X.w B.X.K B.X.mg B.X.base xs) (hz : Zc cls d oe) (hv : ∃ vs, oe.data = .fields vs) (i : Nat) (hN : B.X.N[i]? = some n := by rfl) (hl : Vis B.X.env.scope n := by first | exact Or.inl rfl | exact Or.inr (Or.inl rfl) | exact Or.inr (Or.inr rfl))
    (hd : (n == ("__debug__" : Str)) = false := by decide +kernel) (hcd : (n == ("__classdict__" : Str)) = false := by decide +kernel) : EvF (B.suite a oe pn cls d) (.Attribute (.Name n p) "value" pos) (dXval xs i) := by
  by_cases h : ∃ k ∈ xs, cls = .ref (He.ga B.X.K k)
  · obtain ⟨k, hk, rfl⟩ := h
    obtain ⟨fI, fd, _, _, _, U⟩ := Z.ini
    have T : XfC B.X.K (He.ga B.X.K k) := ⟨(Z.exc k hk).hg, (Z.exc k hk).hk, (Z.exc k hk).hs, (Z.exc k hk).hd⟩
    refine ⟨_, pe_xf T (U k hk).val hz hv (pe_var (X := (B.suite a oe pn (.ref (He.ga B.X.K k)) d).X) hN hl hd hcd), fun c W H σ env Q hc s hq => ?_⟩
    unfold dXval at hq
    obtain ⟨c1, c2, c3⟩ := hc
    cases q : env[i]? with
    | none => rw [q] at hq; exact hq.elim
    | some en =>
      rw [q] at hq
      cases en with
      | xc k' dt =>
        dsimp only at hq
        split at hq
        · obtain ⟨h1, h2, y, v, h3, h4, h5, h6⟩ := s.xc i k' dt q
          rw [c1] at h1
          exact ⟨.ref a, h1, rfl, rfl, y, [("value", v)], v, c3.symm.trans h3, h4, rfl, hq v W H Go.refl s h6⟩
        · exact hq.elim
      | _ => exact hq.elim
  · refine ⟨_, pe_never, fun c W H σ env Q hc s hq => ?_⟩
    unfold dXval at hq
    obtain ⟨c1, c2, c3⟩ := hc
    cases q : env[i]? with
    | none => rw [q] at hq; exact hq.elim
    | some en =>
      rw [q] at hq
      cases en with
      | xc k' dt =>
        dsimp only at hq
        split at hq
        · rename_i hk
          obtain ⟨h1, h2, _⟩ := s.xc i k' dt q
          exact h ⟨k', List.elem_iff.mp hk, c2.symm.trans h2⟩
        · exact hq.elim
      | _ => exact hq.elim
theorem ev_xis (Z : ExcK B.X.prog B.X.w B.X.K B.X.mg B.X.base xs) (hz : Zc cls d oe) (hv : ∃ vs, oe.data = .fields vs) (i : Nat) (hx : x ∈ xs ∨ x = "SightError") (hgi : Gl B.X "isinstance") (hmi : B.X.mg "isinstance" = none) (hgx : Gl B.X x) (hN : B.X.N[i]? = some n := by rfl) (hl : Vis B.X.env.scope n := by first | exact Or.inl rfl | exact Or.inr (Or.inl rfl) | exact Or.inr (Or.inr rfl))
    (hd : (n == ("__debug__" : Str)) = false := by decide +kernel) (hcd : (n == ("__classdict__" : Str)) = false := by decide +kernel) (hdx : (x == ("__debug__" : Str)) = false := by decide +kernel)
    (hs : starEach [.Name n p1, .Name x p2] B.X.env = (false, eval (.Name n p1) B.X.env) :: starEach [.Name x p2] B.X.env := by rfl) (hs2 : starEach [.Name x p2] B.X.env = (false, eval (.Name x p2) B.X.env) :: starEach [] B.X.env := by rfl)
    (hpl : (backTo pos (starEach [.Name x p2] B.X.env)).any (·.1) = false := by rfl) :
    EvF (B.suite a oe pn cls d) (.Call (.Name "isinstance" p) [.Name n p1, .Name x p2] [] pos) (dXis xs x i) := by
  by_cases h : ∃ k ∈ xs, cls = .ref (He.ga B.X.K k)
  · obtain ⟨k, hk, rfl⟩ := h
    have PA1 : PA (B.suite a oe pn (.ref (He.ga B.X.K k)) d).X [.Name n p1, .Name x p2] (L2.tCons (tVar i) (L2.tCons (tC (.ref (He.ga B.X.K x))) L2.tNil)) := pa_cons (pe_var (X := (B.suite a oe pn (.ref (He.ga B.X.K k)) d).X) hN hl hd hcd) (pa_cons (pe_glob (X := (B.suite a oe pn (.ref (He.ga B.X.K k)) d).X) hgx (Z.name hx) rfl hdx) pa_nil hs2) hs
    refine ⟨_, pe_callB (X := (B.suite a oe pn (.ref (He.ga B.X.K k)) d).X) (call_isX (Z.exc k hk) hz hv) hgi hmi (by kernel_rfl) PA1 (by decide) (by decide) hs hpl, fun c W H σ env Q hc s hq => ?_⟩
    unfold dXis at hq
    obtain ⟨c1, c2, c3⟩ := hc
    cases q : env[i]? with
    | none => rw [q] at hq; exact hq.elim
    | some en =>
      rw [q] at hq
      cases en with
      | xc k' dt =>
        dsimp only at hq
        split at hq
        · rename_i hk2
          obtain ⟨h1, h2, y, v, h3, h4, h5, h6⟩ := s.xc i k' dt q
          rw [c1] at h1
          have e : PySem.W.kitOne B.X.K (.ref (He.ga B.X.K k)) (.ref (He.ga B.X.K x)) = some (isSub k' x) := by
            rw [c2.symm.trans h2]
            exact Z.kit k' (List.elem_iff.mp hk2) x hx
          exact ⟨.ref a, h1, He.ga B.X.K x, isSub k' x, y, [("value", v)], rfl, c3.symm.trans h3, h4, e, hq (.bl (isSub k' x)) W H Go.refl s rfl⟩
        · exact hq.elim
      | _ => exact hq.elim
  · refine ⟨_, pe_never, fun c W H σ env Q hc s hq => ?_⟩
    unfold dXis at hq
    obtain ⟨c1, c2, c3⟩ := hc
    cases q : env[i]? with
    | none => rw [q] at hq; exact hq.elim
    | some en =>
      rw [q] at hq
      cases en with
      | xc k' dt =>
        dsimp only at hq
        split at hq
        · rename_i hk
          obtain ⟨h1, h2, _⟩ := s.xc i k' dt q
          exact h ⟨k', List.elem_iff.mp hk, c2.symm.trans h2⟩
        · exact hq.elim
      | _ => exact hq.elim
end
end DL
end
section
set_option maxRecDepth 100000
set_option maxHeartbeats 1000000
/-! DL19: defs by name; calls without arguments, by keywords -/
namespace DL
open PySem PySem.Spec L2
open PyProof.Rows hiding St

/-- the def x of the text, its promise over data -/
structure Cal (P : Program) (w : World) (K : PySem.W.Frag) (mg : Str → Option Value) (base : Heap) (k : Nat) (x : Str) (st : Stmt) (ps : List Str) (io : Option Nat) (fn : DFn) : Prop where
  ex : ∃ fd, FunD K x x (defArgs st) (defBody st) (defScope st) [] [] (He.ga K x) fd ∧ FnG P w K mg base k (He.ga K x) fd ps (spD K io ps.length fn)
  bind : ∀ (kV doc pm : Value) (an : Option Addr) (cdv ct : Value) (us : List Value), us.length = ps.length → bindArgs (PySem.W.fnOf x x (defArgs st) (defBody st) (defScope st) .none kV doc pm an cdv ct) ⟨us, []⟩ = pure (ps.zip us)
  gm : mg x = some (.ref (He.ga K x))
  iok : ∀ i, io = some i → i < ps.length
section
variable {B : Bx} {x : Str} {st : Stmt} {ps : List Str} {io : Option Nat} {fn : DFn} {e : Expr} {es : List Expr} {p pos : Pos} {j k : Nat}
theorem eo_c {fa : M (List Pl)} (C : Cal B.X.prog B.X.w B.X.K B.X.mg B.X.base j x st ps io fn) (G : Gd B k) (hj : j ≤ k) (ha : EvP B (e :: es) fa) (hg : Gl B.X x) (hdb : (x == ("__debug__" : Str)) = false := by decide +kernel)
    (he : starEach (e :: es) B.X.env = (false, eval e B.X.env) :: starEach es B.X.env := by rfl) (hpl : (backTo pos (starEach es B.X.env)).any (·.1) = false := by rfl) :
    EvO B (.Call (.Name x p) (e :: es) [] pos) (dCall io ps.length fn fa) := by
  obtain ⟨fd, F, Fg⟩ := C.ex
  exact eo_call (Fg.mono hj) G.room G.gd hg C.gm F.kp (F.bindsN C.bind) G.tk ha C.iok hdb he hpl
/-- without arguments -/
theorem pe_g0 {sp : Sp} {f : Addr} {fd : FuncData} (F : FnG B.X.prog B.X.w B.X.K B.X.mg B.X.base k f fd ps sp) (hr : Room k B.X.A) (hgd : B.X.A.guards = some []) (hg : Gl B.X x) (hm : B.X.mg x = some (.ref f)) (hk : PySem.W.keepIn B.X.K (.ref f) = true) (hb : Binds B.X.K fd ps []) (tk : Takes B.X B.Wx)
    (hdb : (x == ("__debug__" : Str)) = false) : PE B.X (.Call (.Name x p) [] [] pos) (tCallG sp B.Wx L2.tNil) := by
  refine ⟨fun pins s σ H Q I h => wpAny_Call_Name_kw (ld_glob I hg hm ?_ hdb)⟩
  have h : sp [] H Q fun cls d H' => B.Wx cls d σ H' := h
  have hb' := hb s [] I.kIn (by have := F.len _ _ _ _ h; simpa using this)
  rw [List.append_nil] at hb'
  refine PySem.W.callWith_K0 I.kIn hk (wpAny_call (codeAny_mono (run_g F hr hgd hb' tk I .nil h) fun r s' hq => ?_))
  cases r with
  | error e => exact hq
  | ok fl =>
    cases fl with
    | ret u => exact hq
    | next => exact hq
    | brk => exact hq
    | cont => exact hq
def pNil : M (List Pl) := fun env => .ok [] env
theorem eo_c0 (C : Cal B.X.prog B.X.w B.X.K B.X.mg B.X.base j x st ps io fn) (G : Gd B k) (hj : j ≤ k) (hg : Gl B.X x) (hdb : (x == ("__debug__" : Str)) = false := by decide +kernel) :
    EvO B (.Call (.Name x p) [] [] pos) (dCall io ps.length fn pNil) := by
  obtain ⟨fd, F, Fg⟩ := C.ex
  refine ⟨_, pe_g0 (Fg.mono hj) G.room G.gd hg C.gm F.kp (F.bindsN C.bind) G.tk hdb, fun c W H σ env Q hc s hq => ?_⟩
  unfold dCall pNil callArgs at hq
  dsimp only at hq
  by_cases q3 : ([] : List D).length = ps.length
  · rw [if_pos q3] at hq
    show (spD B.X.K io ps.length fn) [] H Q _
    exact call_sp (pl := []) (vs := []) (ds := []) s (show RepPs B.X.K W H σ [] [] from rfl) rfl q3 C.iok (hq.imp (fun x env' h2 => h2) fun _ _ _ z => z)
  · rw [if_neg q3] at hq
    exact hq.elim
end

/-! ### by keywords -/
def permL {α : Type} (ix : List Nat) (l : List α) : List α := ix.filterMap fun i => l[i]?
theorem permL_cons {α : Type} {i : Nat} {ix : List Nat} {l : List α} : permL (i :: ix) l = (match l[i]? with
  | some a => a :: permL ix l
  | none => permL ix l) := by
  unfold permL
  rw [List.filterMap_cons]
  cases l[i]? <;> rfl
theorem RepL.perm {K : PySem.W.Frag} {W : Addr → Prop} {H : Hp} {ds : List D} {vs : List V} (r : RepL K W H ds vs) : ∀ ix : List Nat, RepL K W H (permL ix ds) (permL ix vs)
  | [] => rfl
  | i :: ix => by
    rw [permL_cons, permL_cons]
    cases q : ds[i]? with
    | some d =>
      obtain ⟨v, h1, h2⟩ := r.get q
      rw [h1]
      exact ⟨v, _, rfl, h2, r.perm ix⟩
    | none =>
      have : vs[i]? = none := by
        rw [List.getElem?_eq_none_iff] at q ⊢
        rw [r.length]
        exact q
      rw [this]
      exact r.perm ix
theorem Vals.perm {vs : List V} {us : List Value} (r : Vals vs us) : ∀ ix : List Nat, Vals (permL ix vs) (permL ix us)
  | [] => .nil
  | i :: ix => by
    rw [permL_cons, permL_cons]
    cases q : vs[i]? with
    | some v =>
      obtain ⟨u, h1, h2⟩ := r.get q
      rw [h1]
      exact .cons h2 (Vals.perm r ix)
    | none =>
      have : us[i]? = none := by
        rw [List.getElem?_eq_none_iff] at q ⊢
        rw [← r.length]
        exact q
      rw [this]
      exact Vals.perm r ix
def EvK (B : Bx) (kws : List Keyword) (f : M (List D)) : Prop := ∃ t, PK B.X kws t ∧ ∀ c W H σ env Q, B.C c → SR B.X.K c W H σ env →
  (f env).Is (fun ds env' => ∀ vs W' H', Go W H W' H' → SR B.X.K c W' H' σ env' → RepL B.X.K W' H' ds vs → Q vs H') (B.XP c W H σ) → t σ H Q
def dCallK (ix : List Nat) (n : Nat) (fn : DFn) (f : M (List D)) : M Ent := fun env => match f env with
  | .ok dw env1 => if (permL ix dw).length = n then (match fn (permL ix dw) with
      | .ok x _ => .ok x env1
      | .ex k d _ => .ex k d env1
      | .bad => .bad) else .bad
  | .bad => .bad
  | .ex c d env' => .ex c d env'
section
variable {B : Bx} {x : Str} {st : Stmt} {ps ks : List Str} {fn : DFn} {e : Expr} {kws : List Keyword} {p pos kpos : Pos} {j k : Nat} {nm : Option Str} {ix : List Nat}
theorem ek_nil : EvK B [] (M.pure []) := ⟨_, pk_nil, fun c W H σ env Q hc s hq => hq _ _ _ Go.refl s rfl⟩
theorem ek_cons {f : M D} {g : M (List D)} (h : EvF B e f) (hr : EvK B kws g) : EvK B (⟨nm, e, kpos⟩ :: kws) (dCons f g) := by
  obtain ⟨t, p, h⟩ := h
  obtain ⟨tr, pr, hr⟩ := hr
  refine ⟨_, pk_cons p pr, fun c W H σ env Q hc s hq => ?_⟩
  refine h c W H σ env _ hc s ((Is_bind hq).imp (fun d env1 h1 v W1 H1 g1 s1 r1 => ?_) fun _ _ _ z => z)
  refine hr c W1 H1 σ env1 _ hc s1 ((Is_bind h1).imp (fun ds env2 h2 vs W2 H2 g2 s2 r2 => ?_) fun _ _ _ z => z.go g1)
  exact h2 (v :: vs) W2 H2 (g1.trans g2) s2 ⟨v, vs, rfl, r1.go g2, r2⟩
theorem eo_ck {f : M (List D)} (C : Cal B.X.prog B.X.w B.X.K B.X.mg B.X.base j x st ps none fn) (G : Gd B k) (hj : j ≤ k) (ha : EvK B kws f)
    (hb : ∀ (kV doc pm : Value) (an : Option Addr) (cdv ct : Value) (ws : List Value), (permL ix ws).length = ps.length → bindArgs (PySem.W.fnOf x x (defArgs st) (defBody st) (defScope st) .none kV doc pm an cdv ct) ⟨[], ks.zip ws⟩ = pure (ps.zip (permL ix ws)))
    (hg : Gl B.X x) (hall : (backToKw pos (keywordEach kws B.X.env)).all (·.1.isSome) = true := by rfl) (hks : (backToKw pos (keywordEach kws B.X.env)).filterMap (·.1) = ks := by rfl) (hdb : (x == ("__debug__" : Str)) = false := by decide +kernel)
    (hpl : ((backTo pos (starEach [] B.X.env)).any (·.1) || (backToKw pos (keywordEach kws B.X.env)).any (·.1.isNone)) = false := by rfl) :
    EvO B (.Call (.Name x p) [] kws pos) (dCallK ix ps.length fn f) := by
  obtain ⟨fd, F, Fg⟩ := C.ex
  obtain ⟨t, pk, ha⟩ := ha
  have PEk : PE B.X (.Call (.Name x p) [] kws pos) (fun σ H Q => t σ H fun vs H1 => spD B.X.K none ps.length fn (permL ix vs) H1 Q fun cls d H' => B.Wx cls d σ H') := by
    refine ⟨fun pins s σ H Q I h => wpAny_Call_Name_kw (ld_glob I hg C.gm ?_ hdb)⟩
    refine PySem.W.callWith_KW0 (h₀ := B.X.base) I.ok.mod.kin F.kp hall (thn (pk.run pos pins s σ H _ I h) fun ws s2 ⟨zs, H2, I2, rz, q2⟩ => ⟨I2.kIn, ?_⟩) hpl
    rw [hks]
    have r2 := Vals.perm rz ix
    have hl : (permL ix ws).length = ps.length := by rw [← r2.length]; exact Fg.len _ _ _ _ q2
    have hbi : BindsTo s2 fd ⟨[], ks.zip ws⟩ (ps.zip (permL ix ws)) := by
      obtain ⟨oc, od, dV, kV, doc, pm, an, cdv, ct, osl, rfl, _, _, hD, _⟩ := F.ex
      rcases hD with ⟨_, rfl⟩ | ⟨z, _⟩
      · exact .of_eq (hb kV doc pm an cdv ct ws hl)
      · exact absurd rfl z
    refine wpAny_call (codeAny_mono (run_g (Fg.mono hj) G.room G.gd hbi G.tk I2 r2 q2) fun r s' hq => ?_)
    cases r with
    | error e => exact hq
    | ok fl =>
      cases fl with
      | ret u => exact hq
      | next => exact hq
      | brk => exact hq
      | cont => exact hq
  refine ⟨_, PEk, fun c W H σ env Q hc s hq => ha c W H σ env _ hc s ?_⟩
  unfold dCallK at hq
  cases q : f env with
  | bad => rw [q] at hq; exact hq
  | ex k d env' => rw [q] at hq; exact hq
  | ok dw env1 =>
    rw [q] at hq
    dsimp only at hq
    by_cases q3 : (permL ix dw).length = ps.length
    · rw [if_pos q3] at hq
      intro vs W' H' g s' r
      have r' := r.perm ix
      refine ⟨W', permL ix dw, none, s'.tr, q3, ⟨r'.length, fun i d v _ h1 h2 => ?_, fun i z => (nomatch z), fun _ => rfl⟩, ?_⟩
      · obtain ⟨v', e1, e2⟩ := r'.get h1
        rw [h2] at e1
        cases e1
        exact e2
      · cases q4 : fn (permL ix dw) with
        | bad => rw [q4] at hq; exact hq.elim
        | ex k d out =>
          rw [q4] at hq
          intro cls dx W2 H2 b o xr
          obtain ⟨g2, s2⟩ := s'.back (slot := none) b o trivial
          exact hq cls dx W2 H2 (g.trans g2) s2 xr
        | ok y out =>
          rw [q4] at hq
          intro v W2 H2 b o rt
          obtain ⟨g2, s2⟩ := s'.back (slot := none) b o trivial
          refine hq v W2 H2 (g.trans g2) s2 ?_
          cases y with
          | fz d => exact rt
          | ow d =>
            obtain ⟨a, rfl, h1, h2, h3⟩ := rt
            refine ⟨a, rfl, h1, fun z => h2 (s'.sub a z), h3, fun i ⟨d2, m⟩ z => h2 ?_⟩
            rcases m with m | m
            · obtain ⟨a', q1, q2, _⟩ := s'.ow i d2 m
              have e : some (some (V.ref a')) = some (some (V.ref a)) := q1.symm.trans z
              cases e
              exact q2
            · obtain ⟨a', q1, q2, _⟩ := s'.io i d2 m
              have e : some (some (V.ref a')) = some (some (V.ref a)) := q1.symm.trans z
              cases e
              exact q2
          | no => exact rt.elim
          | io _ => exact rt.elim
          | xc _ _ => exact rt.elim
    · rw [if_neg q3] at hq
      exact hq.elim
end
end DL
end
section
set_option maxRecDepth 100000
set_option maxHeartbeats 1000000
/-! DL20: chains; names = a tuple with values of one's own; tuple.index -/
namespace DL
open PySem PySem.Spec L2
open PyProof.Rows hiding St

/-- a op b op' c -/
def dChain (F F' : D → D → Option Ent) (f g h : M Pl) : M D := fun env => match f env with
  | .ok p env1 => (match g env1 with
    | .ok q env2 => (match p.get env2, q.get env2 with
      | some d1, some d2 => (match F d1 d2 with
        | some (.fz (.bool false)) => .ok (.bool false) env2
        | some (.fz (.bool true)) => (match h env2 with
          | .ok r env3 => (match q.get env3, r.get env3 with
            | some d2, some d3 => (match F' d2 d3 with
              | some (.fz d) => .ok d env3
              | _ => .bad)
            | _, _ => .bad)
          | .bad => .bad
          | .ex c d env' => .ex c d env')
        | _ => .bad)
      | _, _ => .bad)
    | .bad => .bad
    | .ex c d env' => .ex c d env')
  | .bad => .bad
  | .ex c d env' => .ex c d env'
section
variable {B : Bx} {a b c : Expr} {op op' : CmpOp} {F F' : D → D → Option Ent} {f g h : M Pl} {pos : Pos}
theorem ev_chain (ho : OpR B.X (compareOp op) (rD B.X.K F)) (ho' : OpR B.X (compareOp op') (rD B.X.K F')) (ha : EvB B a f) (hb : EvB B b g) (hc : EvB B c h) (hm : lastMarks [op, op'] [b, c] = false := by with_unfolding_all rfl) : EvF B (.Compare a [op, op'] [b, c] pos) (dChain F F' f g h) := by
  obtain ⟨ta, pa, ha⟩ := ha
  obtain ⟨tb, pb, hb⟩ := hb
  obtain ⟨tc, pc, hc⟩ := hc
  refine ⟨_, pe_chain ho ho' pa pb pc hm, fun cl W H σ env Q hC s hq => ha cl W H σ env _ hC s ?_⟩
  unfold dChain at hq
  cases q : f env with
  | bad => rw [q] at hq; exact hq
  | ex k d env' => rw [q] at hq; exact hq
  | ok p env1 =>
    rw [q] at hq
    dsimp only at hq
    intro x W1 H1 g1 s1 r1
    refine hb cl W1 H1 σ env1 _ hC s1 ?_
    cases q2 : g env1 with
    | bad => rw [q2] at hq; exact hq
    | ex k d env' => rw [q2] at hq; exact fun cls dx W' H' g' => hq cls dx W' H' (g1.trans g')
    | ok pq env2 =>
      rw [q2] at hq
      dsimp only at hq
      intro y W2 H2 g2 s2 r2
      cases e1 : p.get env2 with
      | none => rw [e1] at hq; exact hq.elim
      | some d1 =>
        cases e2 : pq.get env2 with
        | none => rw [e1, e2] at hq; exact hq.elim
        | some d2 =>
          rw [e1, e2] at hq
          dsimp only at hq
          cases e3 : F d1 d2 with
          | none => rw [e3] at hq; exact hq.elim
          | some en =>
            rw [e3] at hq
            cases en with
            | fz d =>
              cases d with
              | bool k =>
                refine ⟨cl, W2, σ, env2, d1, d2, _, s2, s2.look (RepP.go g2 r1) e1, s2.look r2 e2, e3, fun v W3 H3 g3 s3 r3 => ?_⟩
                have ev : v = .bl k := r3
                cases k with
                | false => exact ⟨false, ev, hq _ W3 H3 (g1.trans (g2.trans g3)) s3 rfl⟩
                | true =>
                  refine ⟨true, ev, ?_⟩
                  dsimp only at hq
                  refine hc cl W3 H3 σ env2 _ hC s3 ?_
                  cases q3 : h env2 with
                  | bad => rw [q3] at hq; exact hq
                  | ex k d env' => rw [q3] at hq; exact fun cls dx W' H' g' => hq cls dx W' H' (g1.trans (g2.trans (g3.trans g')))
                  | ok pr env3 =>
                    rw [q3] at hq
                    dsimp only at hq
                    intro z W4 H4 g4 s4 r4
                    cases e4 : pq.get env3 with
                    | none => rw [e4] at hq; exact hq.elim
                    | some d2' =>
                      cases e5 : pr.get env3 with
                      | none => rw [e4, e5] at hq; exact hq.elim
                      | some d3 =>
                        rw [e4, e5] at hq
                        dsimp only at hq
                        cases e6 : F' d2' d3 with
                        | none => rw [e6] at hq; exact hq.elim
                        | some en =>
                          rw [e6] at hq
                          cases en with
                          | fz d => exact ⟨cl, W4, σ, env3, d2', d3, _, s4, s4.look (RepP.go (g3.trans g4) r2) e4, s4.look r4 e5, e6, fun v W5 H5 g5 s5 r5 => hq v W5 H5 (g1.trans (g2.trans (g3.trans (g4.trans g5)))) s5 r5⟩
                          | _ => exact hq.elim
              | _ => exact hq.elim
            | _ => exact hq.elim
end

/-! ### names = a tuple's items, some of one's own -/
def EvNs (B : Bx) (es : List Expr) (is : List Nat) : Prop := PGs B.X es (fun vs σ H Q => vs.length = is.length ∧ Q (setV is vs σ) H)
section
variable {B : Bx} {es : List Expr} {is : List Nat} {x : Str} {p pos : Pos} {i k : Nat}
theorem en_nil : EvNs B [] [] := ⟨fun pins s σ H vs us Q I r h => by
  obtain ⟨h1, h2⟩ := h
  have e : vs = [] := List.length_eq_zero_iff.mp h1
  subst e
  exact (pgs_nil (X := B.X)).run pins s σ H [] us Q I r ⟨rfl, h2⟩⟩
theorem en_cons (i : Nat) (hN : B.X.N.Nodup) (h : EvNs B es is) (hi : B.X.N[i]? = some x := by rfl) (hx : Loc B.X.env.scope x := by first | exact Or.inl rfl | exact Or.inr rfl)
    (hf : B.X.fn x = true ∨ B.X.env.scope.names.lookup x = some .local := by first | exact Or.inl rfl | exact Or.inr rfl)
    (ha : (assignEach (.Name x p :: es) B.X.env).map (·.2) = assign (.Name x p) B.X.env :: (assignEach es B.X.env).map (·.2) := by rfl) : EvNs B (.Name x p :: es) (i :: is) := ⟨fun pins s σ H vs us Q I r ⟨h1, h2⟩ => by
  cases vs with
  | nil => cases h1
  | cons v vs =>
    exact (pgs_cons (pg_name (pos := p) hN hi hx hf) h ha).run pins s σ H (v :: vs) us Q I r ⟨v, vs, rfl, by simpa using h1, h2⟩⟩
theorem RepEs.go0 {K : PySem.W.Frag} {c : Cl} {W : Addr → Prop} {H : Hp} {σ : St} {env : En} {p : Addr} {o : HO} (s : SR K c W H σ env) (n : H p = none) : ∀ {xs : List Ent} {vs : List V}, RepEs K c W H σ env xs vs → RepEs K c W (upd H p o) σ env xs vs
  | [], _, h => h
  | x :: xs, _, h => by
    obtain ⟨v, r, rfl, h1, h2, h3⟩ := h
    refine ⟨v, r, rfl, ?_, RepEs.go0 s n h2, h3⟩
    cases x with
    | fz d => exact Rep.go (go_new s n) h1
    | ow d =>
      obtain ⟨a, e, q1, q2, q3, q4⟩ := h1
      obtain ⟨ob, hob⟩ := q3.there
      exact ⟨a, e, q1, q2, q3.go (go_new s n) (upd_ne (ne_of_none hob n)), q4⟩
    | _ => exact h1.elim
theorem es_asgT {ts as : List Expr} {kt k2 : Nat} {pt pt2 : Pos} {f : M (List Ent)} (G : Gd B k) (ha : EvAO B as f) (ht : EvNs B ts is) (hl : fits is.length = true)
    (hs : swapsWithSole [.Tuple ts kt pt] (.Tuple as k2 pt2) pos.line B.X.env = pure false := by rfl) (hw : swappedStores [.Tuple ts kt pt] (.Tuple as k2 pt2) B.X.env = pure none := by rfl)
    (h1 : (assignEach [.Tuple ts kt pt] B.X.env).map (·.2) = [assign (.Tuple ts kt pt) B.X.env] := by rfl) (hn : (assignEach ts B.X.env).length = is.length := by rfl) (hst : (assignEach ts B.X.env).findIdx? (·.1) = none := by rfl) :
    EvS B (.Assign [.Tuple ts kt pt] (.Tuple as k2 pt2) pos) (lPar is f) := by
  obtain ⟨t, pa, ha⟩ := ha
  refine ⟨_, ps_asg (pe_tupF pa) (pg_tup G.calm ht hn hst) hs hw h1, fun c W H σ env E hc s hq => ha c W H σ env _ hc s ?_⟩
  unfold lPar at hq
  cases q : f env with
  | bad => rw [q] at hq; exact hq
  | ex k d env' => rw [q] at hq; exact hq.xp
  | ok xs env' =>
    rw [q] at hq
    dsimp only at hq
    split at hq
    · rename_i hl2
      intro vs W' H' g s' r
      have l := r.length
      rw [hl2.1] at l
      refine ⟨by rw [l]; exact fits_ok hl, fun p o _ hp => ⟨p, vs, rfl, .inl (.inr ⟨o, upd_same⟩), l, l, ?_⟩⟩
      exact hq _ W' _ (g.trans (go_new s' hp)) ((s'.new_ hp).storeL (r.go0 s' hp) hl2.2)
    · exact hq.elim
end

/-! ### tuple.index of a text -/
def strAt (z : Str) : List D → Nat → Option Nat
  | [], _ => none
  | .str x :: ds, i => if x = z then some i else strAt z ds (i + 1)
  | _ :: _, _ => none
def indexF : D → List D → Option Ent
  | .tuple ds, [.str z] => (match allStr ds with
    | some xs => (match xs.findIdx? (· == z) with
      | some j => some (.fz (.int (j : Int)))
      | none => none)
    | none => none)
  | _, _ => none
section
variable {X : Cx}
theorem m_index : MtR X "tuple.index" (rM X.K indexF) := by
  rintro pins s σ H x xs v us Q I rx rs ⟨c, W, σ', env, d, args, e, hs, rb, ra, hF, q⟩
  match d, args, hF with
  | .tuple ds, [.str z], hF =>
    unfold indexF at hF
    dsimp only at hF
    cases q1 : allStr ds with
    | none => rw [q1] at hF; cases hF
    | some zs =>
      rw [q1] at hF
      dsimp only at hF
      cases q2 : zs.findIdx? (· == z) with
      | none => rw [q2] at hF; cases hF
      | some j =>
        rw [q2] at hF
        cases hF
        obtain ⟨a, vs, rfl, h1, h2, _⟩ := rb.tup
        obtain ⟨y, rfl, ry⟩ := ra.one
        obtain ⟨rfl, _⟩ := ry
        obtain ⟨rfl, _⟩ := allStr_rep h2 q1
        obtain ⟨hj, e1, e2⟩ := List.findIdx?_eq_some_iff_getElem.mp q2
        refine mt_tup_index pins s σ H _ _ v us Q I rx rs ⟨a, zs, z, j, rfl, rfl, h1, ?_, fun m hm em => ?_, q _ W H Go.refl hs rfl⟩
        · rw [List.getElem?_eq_getElem hj, beq_iff_eq.mp e1]
        · obtain ⟨hml, em'⟩ := List.getElem?_eq_some_iff.mp em
          have := e2 m hm
          rw [em'] at this
          simp at this
end
end DL
end
section
set_option maxRecDepth 100000
set_option maxHeartbeats 1000000
/-! DL21: zip, enumerate of lists, tuples, texts -/
namespace DL
open PySem PySem.Spec L2
open PyProof.Rows hiding St

/-- what is walked: a list, a tuple, a text -/
inductive Sk where
  | li (a : Addr) | tu (a : Addr) | tx (x : Str)
def Sk.v : Sk → V
  | .li a => .ref a
  | .tu a => .ref a
  | .tx x => .str x
def Sk.ad : Sk → Addr → Prop
  | .li a, b => b = a
  | .tu a, b => b = a
  | .tx _, _ => False
def charsV (x : Str) : List V := x.cps.toList.map fun c => .str ⟨#[c]⟩
def SkAt (K : PySem.W.Frag) (H : Hp) : Sk → List V → Prop
  | .li a, vs => SqL K H a vs
  | .tu a, vs => SqT K H a vs
  | .tx x, vs => vs = charsV x
def SkIt (k : Sk) (it : Addr) (i : Nat) (h : Heap) : Prop := match k with
  | .li a => h.IsListIter it a i
  | .tu a => h.IsTupleIter it a i
  | .tx x => ∃ t, h.IsStrIter it (strIterType x) x t i
theorem SkIt.keep {k : Sk} {it : Addr} {i : Nat} {h h' : Heap} (s : SkIt k it i h) (kp : ∀ o, h.get? it = some o → h'.get? it = some o) : SkIt k it i h' := by
  cases k with
  | li a => exact Heap.IsListIter.at s kp
  | tu a => exact Heap.IsTupleIter.at s kp
  | tx x =>
    obtain ⟨t, o, ho, r⟩ := s
    exact ⟨t, o, kp o ho, r⟩
theorem SkIt.obj {k : Sk} {it : Addr} {i : Nat} {h : Heap} (s : SkIt k it i h) : ∃ o, h.get? it = some o ∧ ∀ v, o.data ≠ .cell v := by
  cases k with
  | li a =>
    obtain ⟨o, e, _, d⟩ := s
    exact ⟨o, e, fun v z => by rw [d] at z; cases z⟩
  | tu a =>
    obtain ⟨o, e, _, d⟩ := s
    exact ⟨o, e, fun v z => by rw [d] at z; cases z⟩
  | tx x =>
    obtain ⟨t, o, e, _, d⟩ := s
    exact ⟨o, e, fun v z => by rw [d] at z; cases z⟩
section
variable {X : Cx} {pins : List (Addr × Obj)} {σ : St} {H : Hp} {s : Shared}
theorem SkAt.inj (I : Inv X pins σ H s) {k : Sk} {vs us : List V} (a : SkAt X.K H k vs) (b : SkAt X.K H k us) : vs = us := by
  cases k with
  | li _ => exact I.list_inj a b
  | tu _ => exact I.tuple_inj a b
  | tx x => exact Eq.trans (show vs = charsV x from a) (show us = charsV x from b).symm
theorem vals_at : ∀ {vs : List V} {us : List Value} {j : Nat} {u : Value}, Vals vs us → us[j]? = some u → ∃ v, vs[j]? = some v ∧ RelV v u
  | _, _, j, u, .nil, e => by simp at e
  | _, _, 0, u, .cons r t, e => by
    simp at e
    subst e
    exact ⟨_, rfl, r⟩
  | _, _, j + 1, u, .cons r t, e => by
    obtain ⟨v, h1, h2⟩ := vals_at (j := j) t (by simpa using e)
    exact ⟨v, by simpa using h1, h2⟩
theorem charsV_at {x : Str} {i : Nat} {c : Nat} (h : x.cps[i]? = some c) : (charsV x)[i]? = some (.str ⟨#[c]⟩) := by
  unfold charsV
  rw [List.getElem?_map]
  have : x.cps.toList[i]? = some c := by simpa using h
  rw [this]
  rfl
/-- what an iterator over it draws -/
theorem sk_draws (hc : X.calm = true) (I : Inv X pins σ H s) {k : Sk} {vs : List V} {it : Addr} {i : Nat} (h : SkAt X.K H k vs) (st : SkIt k it i s.heap) (ne : ∀ b, k.ad b → b ≠ it) :
    ∃ fp n P St, Draws X.prog X.w X.A.in1 it fp n P St ∧ St i s.heap ∧ n = vs.length ∧ it ∈ fp ∧ (∀ b ∈ fp, b = it ∨ k.ad b) ∧ (∀ j x, P j x → ∃ v, vs[j]? = some v ∧ RelV v x) ∧ ∀ j h', St j h' → SkIt k it j h' := by
  have hh : X.A.in1.handled = none := I.ok.hd hc
  cases k with
  | li a =>
    obtain ⟨its, rv, p, hz⟩ := I.list h
    refine ⟨_, _, _, _, Draws.list hh it a (ne a rfl) its.toArray, ⟨st, p.isList⟩, ?_, by simp, fun b hb => ?_, fun j x e => ?_, fun j h' q => q.1⟩
    · rw [List.size_toArray]; exact rv.length.symm
    · have : b = it ∨ b = a := by simpa using hb
      exact this
    · exact vals_at rv (by simpa using e)
  | tu a =>
    obtain ⟨its, rv, p, hz⟩ := I.tuple h
    refine ⟨_, _, _, _, Draws.tuple hh it a (ne a rfl) its.toArray, ⟨st, p⟩, ?_, by simp, fun b hb => ?_, fun j x e => ?_, fun j h' q => q.1⟩
    · rw [List.size_toArray]; exact rv.length.symm
    · have : b = it ∨ b = a := by simpa using hb
      exact this
    · exact vals_at rv (by simpa using e)
  | tx x =>
    obtain ⟨t, st⟩ := st
    have h : vs = charsV x := h
    subst h
    refine ⟨_, _, _, _, Draws.text hh it x t, st, ?_, by simp, fun b hb => .inl (by simpa using hb), fun j y ⟨c, u, e, q⟩ => ?_, fun j h' q => ⟨t, q⟩⟩
    · unfold charsV; simp
    · exact ⟨_, charsV_at e, u, q⟩
/-- its iterator begins -/
theorem sk_begins (I : Inv X pins σ H s) {k : Sk} {vs : List V} {u : Value} (h : SkAt X.K H k vs) (r : RelV k.v u) :
    ∃ o Hh, Begins u o Hh ∧ Hh s.heap ∧ (∀ (h' : Heap) it, h'.get? it = some o → SkIt k it 0 h') ∧ ∀ b, k.ad b → b < s.heap.objs.size := by
  cases k with
  | li a =>
    obtain rfl : u = .ref a := r
    obtain ⟨its, rv, p, hz⟩ := I.list h
    refine ⟨_, _, begins_list a its.toArray, p.isList, fun h' it e => ⟨_, e, rfl, rfl⟩, fun b e => ?_⟩
    rw [show b = a from e]
    exact p.lt
  | tu a =>
    obtain rfl : u = .ref a := r
    obtain ⟨its, rv, p, hz⟩ := I.tuple h
    refine ⟨_, _, begins_tuple a its.toArray, p, fun h' it e => ⟨_, e, rfl, rfl⟩, fun b e => ?_⟩
    rw [show b = a from e]
    obtain ⟨o, ho, _⟩ := p
    exact Heap.lt_size ho
  | tx x =>
    obtain ⟨t, rfl⟩ := r
    exact ⟨_, _, begins_text x t, trivial, fun h' it e => ⟨t, _, e, rfl, rfl⟩, fun b e => e.elim⟩
end

/-! ### zip -/
def zipJ (K : PySem.W.Frag) (k1 k2 : Sk) : It :=
  ⟨fun i H => ∃ xs ys, SkAt K H k1 xs ∧ SkAt K H k2 ys ∧ i < xs.length ∧ i < ys.length,
    fun i H v H' => ∃ T o x y, v = .ref T ∧ Obj.dict o = none ∧ H T = none ∧ H' = upd H T (.frz o (.tup [x, y])) ∧ (∀ xs, SkAt K H k1 xs → xs[i]? = some x) ∧ ∀ ys, SkAt K H k2 ys → ys[i]? = some y,
    fun i H => ∃ xs ys, SkAt K H k1 xs ∧ SkAt K H k2 ys ∧ i ≤ xs.length ∧ i ≤ ys.length ∧ (i = xs.length ∨ i = ys.length)⟩
def zipT (k1 k2 : Sk) (N : Nat) (i : Nat) (h : Heap) : Prop := IsZip h (N + 4) (N + 2) (N + 3) .none ∧ IsTupOf2 h (N + 2) (.ref N) (.ref (N + 1)) ∧ (∃ x y, IsTupOf2 h (N + 3) x y) ∧ SkIt k1 N i h ∧ SkIt k2 (N + 1) i h
theorem turn_zipS {P : Program} {w : World} {K : PySem.W.Frag} {elts : List Expr} {kk : Nat} {tpos : Pos} {k1 k2 : Sk} {N : Nat} (a1 : ∀ b, k1.ad b → b < N) (a2 : ∀ b, k2.ad b → b < N) :
    Turn P w K (.Tuple elts kk tpos) (zipJ K k1 k2) [N + 4, N + 2, N + 3, N, N + 1] (N + 4) (zipT k1 k2 N) where
  mem := by simp
  obj := fun i h st c hc => by
    obtain ⟨hz, hTI, ⟨x, y, hTO⟩, h1, h2⟩ := st
    have e' : c = N + 4 ∨ c = N + 2 ∨ c = N + 3 ∨ c = N ∨ c = N + 1 := by simpa using hc
    rcases e' with q | q | q | q | q
    · rw [q]; exact ⟨_, hz, fun v q => nomatch q⟩
    · rw [q]; exact ⟨_, hTI, fun v q => nomatch q⟩
    · rw [q]; exact ⟨_, hTO, fun v q => nomatch q⟩
    · rw [q]; exact h1.obj
    · rw [q]; exact h2.obj
  keep := fun i h h' st k => by
    obtain ⟨hz, hTI, ⟨x, y, hTO⟩, h1, h2⟩ := st
    exact ⟨k (N + 4) (by simp) _ hz, k (N + 2) (by simp) _ hTI, ⟨x, y, k (N + 3) (by simp) _ hTO⟩, h1.keep fun o q => k N (by simp) o q, h2.keep fun o q => k (N + 1) (by simp) o q⟩
  item := by
    intro X hP hw hK hc i pins s σ H E I hf st hg
    subst hP hw hK
    obtain ⟨hz, hTI, ⟨x0, y0, hTO⟩, h1, h2⟩ := st
    obtain ⟨xs, ys, hqx, hqy, hx, hy⟩ := hg
    obtain ⟨fp1, n1, P1, S1, D1, st1, e1, m1, f1, p1, q1⟩ := sk_draws hc I hqx h1 fun b hb => Nat.ne_of_lt (a1 b hb)
    obtain ⟨fp2, n2, P2, S2, D2, st2, e2, m2, f2, p2, q2⟩ := sk_draws hc I hqy h2 fun b hb => Nat.ne_of_lt (Nat.lt_succ_of_lt (a2 b hb))
    have nf1 : ∀ j, 1 ≤ j → N + j ∉ fp1 := fun j hj hm => by
      rcases f1 _ hm with e | e
      · have : N + j = N := e
        omega
      · have : N + j < N := a1 _ e
        omega
    have nf2 : ∀ j, j ≠ 1 → N + j ∉ fp2 := fun j hj hm => by
      rcases f2 _ hm with e | e
      · have : N + j = N + 1 := e
        omega
      · have : N + j < N := a2 _ e
        omega
    have S : ZipSep2 (N + 4) (N + 2) (N + 3) N (N + 1) fp1 fp2 := ⟨show (N + 2 : Nat) ≠ N + 4 by omega, show (N + 3 : Nat) ≠ N + 4 by omega, show (N + 2 : Nat) ≠ N + 3 by omega, show (N + 2 : Nat) ≠ N by omega, m1, nf1 4 (by omega), nf1 3 (by omega),
      show (N + 2 : Nat) ≠ N + 1 by omega, m2, nf2 4 (by omega), nf2 3 (by omega), nf2 0 (by omega), nf1 1 (by omega)⟩
    have hzl : N + 4 < s.heap.objs.size := Heap.lt_size hz
    refine wpAny_pyNext_zipD2_item S D1 D2 hz hTI hTO st1 st2 (by rw [e1]; exact hx) (by rw [e2]; exact hy) fun u u2 h' tk' y1 y2 z' TO' d1 d2 hT hsz hk => ?_
    obtain ⟨x, hx', ru⟩ := p1 _ _ y1
    obtain ⟨y, hy', ru2⟩ := p2 _ _ y2
    refine ⟨_, rfl, wpAny_letOwnedTupleGo_zip (s := { s with heap := h', toks := tk' }) z' fun h'' z'' sb => ?_⟩
    have hT2 : h''.get? s.heap.objs.size = some { cls := .type "tuple", data := .seq #[u, u2] } := (sb.2 _ (Nat.ne_of_gt hzl)).trans hT
    have new : ObjOk X.prog X.w (upd H s.heap.objs.size (.frz { cls := .type "tuple", data := .seq #[u, u2] } (.tup [x, y]))) h'' s.heap.objs.size (.frz { cls := .type "tuple", data := .seq #[u, u2] } (.tup [x, y])) :=
      ⟨hT2, by show 2 ≤ sizeLine; decide, [u, u2], .cons ru (.cons ru2 .nil), ⟨_, hT2, rfl, _, rfl⟩⟩
    have I1 : Inv X pins σ (upd H s.heap.objs.size (.frz { cls := .type "tuple", data := .seq #[u, u2] } (.tup [x, y]))) { s with heap := h'', toks := tk' } :=
      I.turnedNew (t' := tk') (ch := [N + 4, N + 2, N + 3, N, N + 1]) (fun c o hb q => (sb.2 c (fun q' => hb (by simp [q']))).trans (hk c o (fun q' => hb (by simp [q'])) (fun q' => hb (by simp [q'])) (fun q' => hb (by simp [q'])) (fun q' => hb (by simp [q'])) q)) hf (Nat.le_refl _) new
    refine ⟨.ref s.heap.objs.size, _, I1, rfl, ⟨_, _, x, y, rfl, rfl, I.hok.fresh (Nat.le_refl _), rfl, fun l hl => by rw [SkAt.inj I hl hqx]; exact hx', fun l hl => by rw [SkAt.inj I hl hqy]; exact hy'⟩, ⟨z'', ?_, ⟨u, u2, ?_⟩, ?_, ?_⟩, fun c hcm => ?_⟩
    · exact (sb.2 _ S.TIz).trans (hk _ _ S.TIz S.TITO S.TIi1 S.TIi2 hTI)
    · exact (sb.2 _ S.TOz).trans TO'
    · exact (q1 _ _ d1).keep fun o q => (sb.2 _ (show (N : Nat) ≠ N + 4 by omega)).trans q
    · exact (q2 _ _ d2).keep fun o q => (sb.2 _ (show (N + 1 : Nat) ≠ N + 4 by omega)).trans q
    · have hlt : c < s.heap.objs.size := by
        have e' : c = N + 4 ∨ c = N + 2 ∨ c = N + 3 ∨ c = N ∨ c = N + 1 := by simpa using hcm
        have hzl : N + 4 < s.heap.objs.size := hzl
        rcases e' with q | q | q | q | q <;> (rw [q]; show (_ : Nat) < (s.heap.objs.size : Nat); omega)
      rw [upd_ne (Nat.ne_of_lt hlt)]
      exact (hf c hcm).1
  done := by
    intro X hP hw hK hc i pins s σ H E I hf st hg
    subst hP hw hK
    obtain ⟨hz, hTI, ⟨x0, y0, hTO⟩, h1, h2⟩ := st
    obtain ⟨xs, ys, hqx, hqy, l1, l2, hend⟩ := hg
    obtain ⟨fp1, n1, P1, S1, D1, st1, e1, m1, f1, p1, q1⟩ := sk_draws hc I hqx h1 fun b hb => Nat.ne_of_lt (a1 b hb)
    obtain ⟨fp2, n2, P2, S2, D2, st2, e2, m2, f2, p2, q2⟩ := sk_draws hc I hqy h2 fun b hb => Nat.ne_of_lt (Nat.lt_succ_of_lt (a2 b hb))
    have nf1 : ∀ j, 1 ≤ j → N + j ∉ fp1 := fun j hj hm => by
      rcases f1 _ hm with e | e
      · have : N + j = N := e
        omega
      · have : N + j < N := a1 _ e
        omega
    have nf2 : ∀ j, j ≠ 1 → N + j ∉ fp2 := fun j hj hm => by
      rcases f2 _ hm with e | e
      · have : N + j = N + 1 := e
        omega
      · have : N + j < N := a2 _ e
        omega
    have S : ZipSep2 (N + 4) (N + 2) (N + 3) N (N + 1) fp1 fp2 := ⟨show (N + 2 : Nat) ≠ N + 4 by omega, show (N + 3 : Nat) ≠ N + 4 by omega, show (N + 2 : Nat) ≠ N + 3 by omega, show (N + 2 : Nat) ≠ N by omega, m1, nf1 4 (by omega), nf1 3 (by omega),
      show (N + 2 : Nat) ≠ N + 1 by omega, m2, nf2 4 (by omega), nf2 3 (by omega), nf2 0 (by omega), nf1 1 (by omega)⟩
    exact wpAny_pyNext_zipD2_end S D1 D2 hz hTI hTO st1 st2 (by rw [e1]; exact l1) (by rw [e2]; exact l2) (by rw [e1, e2]; exact hend) fun h' tk' hk => ⟨rfl, I.turnedL (t' := tk') (ch := [N + 4, N + 2, N + 3, N, N + 1]) (fun c o hb q =>
      hk c o (fun q' => hb (by simp [q'])) (fun q' => hb (by simp [q'])) (fun q' => hb (by simp [q'])) (fun q' => hb (by simp [q'])) q) hf⟩
  self := fun A i s Q E st h => wpAny_pyIter_zip st.1 h
/-! ### enumerate -/
def enumJ (K : PySem.W.Frag) (k : Sk) : It :=
  ⟨fun i H => ∃ xs, SkAt K H k xs ∧ i < xs.length,
    fun i H v H' => ∃ T o x, v = .ref T ∧ Obj.dict o = none ∧ H T = none ∧ H' = upd H T (.frz o (.tup [.int (i : Nat), x])) ∧ ∀ xs, SkAt K H k xs → xs[i]? = some x,
    fun i H => ∃ xs, SkAt K H k xs ∧ i = xs.length⟩
def enumT (k : Sk) (N : Nat) (i : Nat) (h : Heap) : Prop := (∃ old, IsEnum h (N + 1) N ((i : Nat) : Int) old) ∧ SkIt k N i h
theorem turn_enumS {P : Program} {w : World} {K : PySem.W.Frag} {elts : List Expr} {kk : Nat} {tpos : Pos} {k : Sk} {N : Nat} (a1 : ∀ b, k.ad b → b < N) :
    Turn P w K (.Tuple elts kk tpos) (enumJ K k) [N + 1, N] (N + 1) (enumT k N) where
  mem := by simp
  obj := fun i h st c hc => by
    obtain ⟨⟨old, he⟩, h1⟩ := st
    have e' : c = N + 1 ∨ c = N := by simpa using hc
    rcases e' with q | q
    · rw [q]; exact ⟨_, he, fun v q => nomatch q⟩
    · rw [q]; exact h1.obj
  keep := fun i h h' st k => let ⟨⟨old, he⟩, h1⟩ := st; ⟨⟨old, k (N + 1) (by simp) _ he⟩, h1.keep fun o q => k N (by simp) o q⟩
  item := by
    intro X hP hw hK hc i pins s σ H E I hf st hg
    subst hP hw hK
    obtain ⟨⟨old, he⟩, h1⟩ := st
    obtain ⟨xs, hq, hx⟩ := hg
    obtain ⟨fp1, n1, P1, S1, D1, st1, e1, m1, f1, p1, q1⟩ := sk_draws hc I hq h1 fun b hb => Nat.ne_of_lt (a1 b hb)
    have hef : N + 1 ∉ fp1 := fun hm => by
      rcases f1 _ hm with e | e
      · have : N + 1 = N := e
        omega
      · have : N + 1 < N := a1 _ e
        omega
    have hel : N + 1 < s.heap.objs.size := Heap.lt_size he
    refine wpAny_pyNext_enum_itemD D1 he st1 (by rw [e1]; exact hx) (show (N + 1 : Nat) ≠ N by omega) hef fun u h' tk' y1 ho d1 hT hsz hk => ?_
    obtain ⟨x, hx', ru⟩ := p1 _ _ y1
    refine ⟨_, rfl, wpAny_letOwnedTupleGo_enum (s := { s with heap := h', toks := tk' + 1 }) ho fun h'' he' sb => ?_⟩
    have hT2 : h''.get? s.heap.objs.size = some { cls := .type "tuple", data := .seq #[.int i tk', u] } := (sb.2 _ (Nat.ne_of_gt hel)).trans hT
    have new : ObjOk X.prog X.w (upd H s.heap.objs.size (.frz { cls := .type "tuple", data := .seq #[.int i tk', u] } (.tup [.int (i : Nat), x]))) h'' s.heap.objs.size (.frz { cls := .type "tuple", data := .seq #[.int i tk', u] } (.tup [.int (i : Nat), x])) :=
      ⟨hT2, by show 2 ≤ sizeLine; decide, [.int i tk', u], .cons ⟨_, rfl⟩ (.cons ru .nil), ⟨_, hT2, rfl, _, rfl⟩⟩
    have I1 : Inv X pins σ (upd H s.heap.objs.size (.frz { cls := .type "tuple", data := .seq #[.int i tk', u] } (.tup [.int (i : Nat), x]))) { s with heap := h'', toks := tk' + 1 } :=
      I.turnedNew (t' := tk' + 1) (ch := [N + 1, N]) (fun b ob hb q => (sb.2 b (fun z => hb (by simp [z]))).trans (hk b ob (fun z => hb (by simp [z])) (fun z => hb (by simp [z])) q)) hf (Nat.le_refl _) new
    refine ⟨.ref s.heap.objs.size, _, I1, rfl, ⟨_, _, x, rfl, rfl, I.hok.fresh (Nat.le_refl _), rfl, fun l hl => by rw [SkAt.inj I hl hq]; exact hx'⟩, ⟨⟨u, ?_⟩, ?_⟩, fun b hb => ?_⟩
    · have e1 : ((i + 1 : Nat) : Int) = (i : Int) + 1 := by omega
      rw [e1]; exact he'
    · exact (q1 _ _ d1).keep fun o q => (sb.2 _ (show (N : Nat) ≠ N + 1 by omega)).trans q
    · have hlt : b < s.heap.objs.size := by
        have e' : b = N + 1 ∨ b = N := by simpa using hb
        have hel : N + 1 < s.heap.objs.size := hel
        rcases e' with q | q <;> (rw [q]; show (_ : Nat) < (s.heap.objs.size : Nat); omega)
      rw [upd_ne (Nat.ne_of_lt hlt)]
      exact (hf b hb).1
  done := by
    intro X hP hw hK hc i pins s σ H E I hf st hg
    subst hP hw hK
    obtain ⟨⟨old, he⟩, h1⟩ := st
    obtain ⟨xs, hq, hx⟩ := hg
    obtain ⟨fp1, n1, P1, S1, D1, st1, e1, m1, f1, p1, q1⟩ := sk_draws hc I hq h1 fun b hb => Nat.ne_of_lt (a1 b hb)
    obtain ⟨f0, f1', f2, f3, f4, f5⟩ := hf N (by simp)
    exact wpAny_pyNext_enum_endD D1 he (by rw [e1, ← hx]; exact st1) fun h' eb => ⟨rfl, I.turned (t' := s.toks) (fun b o hb q => eb b o hb q) f0 f1' f3 f4 f5⟩
  self := fun A i s Q E st h => let ⟨⟨_, he⟩, _⟩ := st; wpAny_pyIter_enum he h
end DL
end
section
set_option maxRecDepth 100000
set_option maxHeartbeats 1000000
/-! DL22: for .. in zip(..), enumerate(..) -/
namespace PySem
open Sem (wp)
open AutoSeq1 (wpAny_loadPart')
theorem dl_enum_new {v : Value} {o : Obj} {H : Heap → Prop} (B : Begins v o H) :
    Meets (Builtin.«enumerate.__new__» ⟨[.type "enumerate", v], []⟩) (fun _ R s => H s.heap ∧
      R (.ok (.ret (.ref (s.heap.push o).objs.size))) { s with heap := (s.heap.push o).push { cls := .type "enumerate", data := .fields #[.none, .bool false, .ref s.heap.objs.size, rawInt 0, .none, .none] } }) :=
  .of_wp fun prog w A R s h => by
    obtain ⟨hp, g, d, tk, os⟩ := s; obtain ⟨h1, h⟩ := h
    have hsub := sub_enumerate
    have q1 : ∀ {A' : Around} {E : Value → Shared → Prop} {Q : Value → Shared → Prop}, Q (.ref hp.objs.size) ⟨hp.push o, g, d, tk, os⟩ → wpAny (model prog w) A' (pyIter v) Q E ⟨hp, g, d, tk, os⟩ :=
      fun q => B.iter prog w _ _ ⟨hp, g, d, tk, os⟩ _ h1 q
    wp_walk using q1
    refine wpAny_stack_any fun st => wpAny_pure ?_
    split
    · rename_i c _ _ _ _ _
      cases (c == Value.type "enumerate")
      · wp_walk using q1
        exact ⟨_, rfl, h⟩
      · wp_walk using q1
        exact ⟨_, rfl, h⟩
    · wp_walk using q1
      exact ⟨_, rfl, h⟩
section
variable {prog : Program} {w : World} {A : Around} {E : Value → Shared → Prop} {s : Shared}
theorem dl_enum {v : Value} {o : Obj} {H : Heap → Prop} {Q : Value → Shared → Prop} (B : Begins v o H) (h1 : H s.heap)
    (h : ∀ h', IsEnum h' (s.heap.objs.size + 1) s.heap.objs.size 0 .none → h'.get? s.heap.objs.size = some o → h'.objs.size = s.heap.objs.size + 2 →
      (∀ b o, s.heap.get? b = some o → h'.get? b = some o) → Q (.ref (s.heap.objs.size + 1)) { s with heap := h' }) :
    wpAny (model prog w) A (call (.type "enumerate") [v]) Q E s := by
  refine callType_new F.called_enumerate (by decide) (F.typeCall_enumerate_1 _) (F.newCall_enumerate_1 _) (fun obj => F.args_object_init_2 obj _) F.entry_enumerate_new (dl_enum_new B) ⟨h1, ?_⟩
  have hz : (s.heap.push o).objs.size = s.heap.objs.size + 1 := Heap.size_push ..
  show _ ∧ _
  rw [hz]
  have he : IsEnum ((s.heap.push o).push { cls := .type "enumerate", data := .fields #[.none, .bool false, .ref s.heap.objs.size, rawInt 0, .none, .none] }) (s.heap.objs.size + 1) s.heap.objs.size 0 .none := by
    have := Heap.get?_push_size (s.heap.push o) (o := { cls := .type "enumerate", data := .fields #[.none, .bool false, .ref s.heap.objs.size, rawInt 0, .none, .none] }) rfl
    rw [hz] at this; exact this
  exact ⟨⟨_, he, rfl⟩, h _ he (Heap.get?_push_of_some _ (Heap.get?_push_size _ B.free)) (by rw [Heap.size_push, hz]) fun b o x => Heap.get?_push_of_some _ (Heap.get?_push_of_some _ x)⟩
end
end PySem
namespace DL
open PySem PySem.Spec L2
open PyProof.Rows hiding St

def iZipS (K : PySem.W.Frag) (ta : TA) : TI := fun σ H R => ta σ H fun vs H1 => ∃ k1 k2 xs ys, vs = [Sk.v k1, Sk.v k2] ∧ SkAt K H1 k1 xs ∧ SkAt K H1 k2 ys ∧ R (zipJ K k1 k2) H1
def iEnumS (K : PySem.W.Frag) (ta : TA) : TI := fun σ H R => ta σ H fun vs H1 => ∃ k xs, vs = [Sk.v k] ∧ SkAt K H1 k xs ∧ R (enumJ K k) H1
section
variable {X : Cx} {e e2 : Expr} {ta : TA} {p pos tpos : Pos} {elts : List Expr} {kk : Nat}
theorem pi_zipS (hg : Gl X "zip") (hm : X.mg "zip" = none) (ha : PA X [e, e2] ta)
    (hs : starEach [e, e2] X.env = (false, eval e X.env) :: starEach [e2] X.env := by rfl) (hpl : (backTo pos (starEach [e2] X.env)).any (·.1) = false := by rfl) :
    PI X (.Tuple elts kk tpos) (.Call (.Name "zip" p) [e, e2] [] pos) (iZipS X.K ta) := by
  refine ⟨fun pins s σ H R I h => ?_⟩
  refine Call_ (ld_blt I hg hm PyProof.Rows.boot_zip (PyProof.Rows.callWith_type1 (thn (ha.run pos pins s σ H _ I h) fun us s1 ⟨vs, H1, I1, r1, k1, k2, xs, ys, ex, hx, hy, q⟩ => ?_) hs hpl))
  subst ex
  obtain ⟨u1, u2, rfl, ru1, ru2⟩ := r1.two
  obtain ⟨o1, G1, B1, g1, t1, a1⟩ := sk_begins I1 hx ru1
  obtain ⟨o2, G2, B2, g2, t2, a2⟩ := sk_begins I1 hy ru2
  refine zip_begins2 B1 B2 g1 g2 fun h' hz hTI hTO ho1 ho2 hsz hk => wpAny_pyIter_zip hz ?_
  refine ⟨s1.heap.objs.size + 4, _, zipT k1 k2 s1.heap.objs.size, _, H1, rfl, I1.kept (t' := s1.toks) hk, turn_zipS a1 a2, ⟨hz, hTI, ⟨_, _, hTO⟩, t1 _ _ ho1, t2 _ _ ho2⟩, fun c hcm => ?_, q⟩
  have e' : c = s1.heap.objs.size + 4 ∨ c = s1.heap.objs.size + 2 ∨ c = s1.heap.objs.size + 3 ∨ c = s1.heap.objs.size ∨ c = s1.heap.objs.size + 1 := by simpa using hcm
  have hle : s1.heap.objs.size ≤ c := by
    rcases e' with z | z | z | z | z
    · rw [z]; exact Nat.le_add_right _ _
    · rw [z]; exact Nat.le_add_right _ _
    · rw [z]; exact Nat.le_add_right _ _
    · rw [z]; exact Nat.le_refl _
    · rw [z]; exact Nat.le_add_right _ _
  exact I1.fpOk hle (I1.hok.fresh hle)
theorem pi_enumS (hg : Gl X "enumerate") (hm : X.mg "enumerate" = none) (ha : PA X [e] ta) (hs : starEach [e] X.env = [(false, eval e X.env)] := by rfl) :
    PI X (.Tuple elts kk tpos) (.Call (.Name "enumerate" p) [e] [] pos) (iEnumS X.K ta) := by
  refine ⟨fun pins s σ H R I h => ?_⟩
  refine Call_ (ld_blt I hg hm boot_enumerate (PyProof.Rows.callWith_type1 (thn (ha.run pos pins s σ H _ I h) fun us s1 ⟨vs, H1, I1, r1, k, xs, ex, hx, q⟩ => ?_) hs rfl))
  subst ex
  obtain ⟨u1, rfl, ru1⟩ := r1.one
  obtain ⟨o1, G1, B1, g1, t1, a1⟩ := sk_begins I1 hx ru1
  refine dl_enum B1 g1 fun h' he ho1 hsz hk => wpAny_pyIter_enum he ?_
  refine ⟨s1.heap.objs.size + 1, _, enumT k s1.heap.objs.size, _, H1, rfl, I1.kept (t' := s1.toks) hk, turn_enumS a1, ⟨⟨.none, he⟩, t1 _ _ ho1⟩, fun c hcm => ?_, q⟩
  have e' : c = s1.heap.objs.size + 1 ∨ c = s1.heap.objs.size := by simpa using hcm
  have hle : s1.heap.objs.size ≤ c := by
    rcases e' with z | z
    · rw [z]; exact Nat.le_add_right _ _
    · rw [z]; exact Nat.le_refl _
  exact I1.fpOk hle (I1.hok.fresh hle)
end

/-! ### over data -/
section
variable {K : PySem.W.Frag} {W : Addr → Prop} {H : Hp}
theorem rep_chars {x : Str} (ok : PyData.strOk x = true) : RepL K W H (chars x) (charsV x) := by
  have key : ∀ l : List Nat, (∀ c ∈ l, PyData.strOk (⟨#[c]⟩ : Str) = true) → RepL K W H (l.map fun c => PyData.str ⟨#[c]⟩) (l.map fun c => V.str ⟨#[c]⟩) := by
    intro l
    induction l with
    | nil => intro _; rfl
    | cons c r ih =>
      intro h
      exact ⟨_, _, rfl, ⟨rfl, by show 1 ≤ sizeLine; decide, h c List.mem_cons_self⟩, ih fun d hd => h d (List.mem_cons_of_mem _ hd)⟩
  refine key x.cps.toList fun c hc => ?_
  obtain ⟨i, hi, e⟩ := List.mem_iff_getElem.mp hc
  refine str1_ok ok (i := i) ?_
  have : x.cps.toList[i]? = some c := by rw [List.getElem?_eq_getElem hi, e]
  simpa using this
/-- what data are walked as -/
theorem sk_of {d : D} {v : V} {ds : List D} (r : Rep K W H d v) (h : seqD d = some ds) : ∃ k vs, v = Sk.v k ∧ (∀ W' H', Go W H W' H' → SkAt K H' k vs) ∧ RepL K W H ds vs ∧ ds.length ≤ sizeLine := by
  cases d with
  | list xs =>
    cases h
    obtain ⟨a, vs, rfl, s, r, z⟩ := r
    exact ⟨.li a, vs, rfl, fun W' H' g => (s.go g).sq, r, z⟩
  | tuple xs =>
    cases h
    obtain ⟨a, vs, rfl, s, r, z⟩ := r
    exact ⟨.tu a, vs, rfl, fun W' H' g => (s.go g).sq, r, z⟩
  | str x =>
    cases h
    obtain ⟨rfl, z, ok⟩ := r
    exact ⟨.tx x, charsV x, rfl, fun W' H' g => rfl, rep_chars ok, by rw [chars_length]; exact z⟩
  | _ => cases h
def pairs : List D → List D → List D
  | a :: as, b :: bs => .tuple [a, b] :: pairs as bs
  | _, _ => []
theorem pairs_length : ∀ as bs : List D, (pairs as bs).length = min as.length bs.length
  | [], _ => by simp [pairs]
  | _ :: _, [] => by simp [pairs]
  | a :: as, b :: bs => by simp only [pairs, List.length_cons, pairs_length as bs]; omega
theorem pairs_at : ∀ {as bs : List D} {i : Nat} {d : D}, (pairs as bs)[i]? = some d → ∃ a b, as[i]? = some a ∧ bs[i]? = some b ∧ d = .tuple [a, b]
  | [], _, _, _, h => by simp [pairs] at h
  | _ :: _, [], _, _, h => by simp [pairs] at h
  | a :: as, b :: bs, 0, d, h => by
    simp [pairs] at h
    exact ⟨a, b, rfl, rfl, h.symm⟩
  | a :: as, b :: bs, i + 1, d, h => by
    obtain ⟨x, y, h1, h2, h3⟩ := pairs_at (as := as) (bs := bs) (i := i) (d := d) (by simpa [pairs] using h)
    exact ⟨x, y, by simpa using h1, by simpa using h2, h3⟩
def count : Nat → List D → List D
  | _, [] => []
  | i, d :: ds => .tuple [.int (i : Int), d] :: count (i + 1) ds
theorem count_length : ∀ (i : Nat) (ds : List D), (count i ds).length = ds.length
  | _, [] => rfl
  | i, d :: ds => by rw [count, List.length_cons, List.length_cons, count_length (i + 1) ds]
theorem count_at : ∀ {j : Nat} {ds : List D} {i : Nat} {d : D}, (count j ds)[i]? = some d → ∃ a, ds[i]? = some a ∧ d = .tuple [.int ((j + i : Nat) : Int), a]
  | _, [], _, _, h => by simp [count] at h
  | j, a :: ds, 0, d, h => by
    simp [count] at h
    exact ⟨a, rfl, h.symm⟩
  | j, a :: ds, i + 1, d, h => by
    obtain ⟨x, h1, h2⟩ := count_at (j := j + 1) (ds := ds) (i := i) (d := d) (by simpa [count] using h)
    exact ⟨x, by simpa using h1, by rw [h2, show j + 1 + i = j + (i + 1) by omega]⟩
theorem rep_pair {a b : D} {x y : V} {T : Addr} {o : Obj} (ho : Obj.dict o = none) (n : ¬ W T) (h : H T = some (.frz o (.tup [x, y]))) (ra : Rep K W H a x) (rb : Rep K W H b y) : Rep K W H (.tuple [a, b]) (.ref T) :=
  ⟨T, [x, y], rfl, .inl ⟨n, o, ho, h⟩, ⟨x, [y], rfl, ra, y, [], rfl, rb, rfl⟩, by show 2 ≤ sizeLine; decide⟩
end
section
variable {B : Bx} {e e2 : Expr} {p pos tpos : Pos} {elts : List Expr} {kk : Nat} {f : M (List D)}
def gZip (f : M (List D)) : M (List D) := fun env => match f env with
  | .ok [a, b] env' => (match seqD a, seqD b with
    | some as, some bs => .ok (pairs as bs) env'
    | _, _ => .bad)
  | .ok _ _ => .bad
  | .bad => .bad
  | .ex c d env' => .ex c d env'
theorem it_zip (h : EvA B [e, e2] f) (hg : Gl B.X "zip") (hm : B.X.mg "zip" = none) (hs : starEach [e, e2] B.X.env = (false, eval e B.X.env) :: starEach [e2] B.X.env := by rfl) (hpl : (backTo pos (starEach [e2] B.X.env)).any (·.1) = false := by rfl) :
    EvIt B (.Tuple elts kk tpos) (.Call (.Name "zip" p) [e, e2] [] pos) (gZip f) := by
  obtain ⟨t, pa, h⟩ := h
  refine ⟨_, pi_zipS hg hm pa hs hpl, fun c W H σ env R hc s hq => h c W H σ env _ hc s ?_⟩
  unfold gZip at hq
  cases q : f env with
  | bad => rw [q] at hq; exact hq
  | ex k d env' => rw [q] at hq; exact hq
  | ok ds env' =>
    rw [q] at hq
    intro vs W' H' g s' r
    match ds, hq, r with
    | [a, b], hq, r =>
      dsimp only at hq
      obtain ⟨v1, r0, rfl, ra, v2, r2, rfl, rb, e3⟩ := r
      have e3 : r2 = [] := e3
      subst e3
      cases q1 : seqD a with
      | none => rw [q1] at hq; exact hq.elim
      | some as =>
        cases q2 : seqD b with
        | none => rw [q1, q2] at hq; exact hq.elim
        | some bs =>
          rw [q1, q2] at hq
          obtain ⟨k1, vs1, rfl, m1, l1, z1⟩ := sk_of ra q1
          obtain ⟨k2, vs2, rfl, m2, l2, z2⟩ := sk_of rb q2
          refine ⟨k1, k2, vs1, vs2, rfl, m1 _ _ Go.refl, m2 _ _ Go.refl, hq _ W' H' g s' ⟨by rw [pairs_length]; omega, fun W2 H2 g2 i hi => ?_, fun W2 H2 g2 => ?_, fun W2 H2 g2 tr2 i x H3 d y hd => ?_⟩⟩
          · rw [pairs_length] at hi
            exact ⟨vs1, vs2, m1 _ _ g2, m2 _ _ g2, by rw [l1.length]; omega, by rw [l2.length]; omega⟩
          · rw [pairs_length]
            exact ⟨vs1, vs2, m1 _ _ g2, m2 _ _ g2, by rw [l1.length]; omega, by rw [l2.length]; omega, by rw [l1.length, l2.length]; omega⟩
          · obtain ⟨T, o, x1, y1, rfl, ho, hn, rfl, f1, f2⟩ := y
            obtain ⟨da, db, e1, e2, rfl⟩ := pairs_at hd
            obtain ⟨u1, e3, r3⟩ := (l1.go g2).get e1
            obtain ⟨u2, e4, r4⟩ := (l2.go g2).get e2
            have e5 := f1 _ (m1 _ _ g2)
            have e6 := f2 _ (m2 _ _ g2)
            rw [e3] at e5
            rw [e4] at e6
            cases e5
            cases e6
            refine ⟨.inr ⟨T, _, hn, rfl⟩, ?_⟩
            have nw : ¬ W2 T := fun w => by
              obtain ⟨_, z⟩ := tr2 T w
              rw [hn] at z
              cases z
            have g3 : Go W2 H2 W2 (upd H2 T (.frz o (.tup [x1, y1]))) := ⟨fun b u h _ => by rw [upd_ne (ne_of_none h hn)]; exact h, fun b h => .inl h⟩
            exact rep_pair ho nw upd_same (r3.go g3) (r4.go g3)
def gEnum (f : M (List D)) : M (List D) := fun env => match f env with
  | .ok [a] env' => (match seqD a with
    | some as => .ok (count 0 as) env'
    | none => .bad)
  | .ok _ _ => .bad
  | .bad => .bad
  | .ex c d env' => .ex c d env'
theorem it_enum (h : EvA B [e] f) (hg : Gl B.X "enumerate") (hm : B.X.mg "enumerate" = none) (hs : starEach [e] B.X.env = [(false, eval e B.X.env)] := by rfl) :
    EvIt B (.Tuple elts kk tpos) (.Call (.Name "enumerate" p) [e] [] pos) (gEnum f) := by
  obtain ⟨t, pa, h⟩ := h
  refine ⟨_, pi_enumS hg hm pa hs, fun c W H σ env R hc s hq => h c W H σ env _ hc s ?_⟩
  unfold gEnum at hq
  cases q : f env with
  | bad => rw [q] at hq; exact hq
  | ex k d env' => rw [q] at hq; exact hq
  | ok ds env' =>
    rw [q] at hq
    intro vs W' H' g s' r
    match ds, hq, r with
    | [a], hq, r =>
      dsimp only at hq
      obtain ⟨v1, rfl, ra⟩ := r.one
      cases q1 : seqD a with
      | none => rw [q1] at hq; exact hq.elim
      | some as =>
        rw [q1] at hq
        obtain ⟨k1, vs1, rfl, m1, l1, z1⟩ := sk_of ra q1
        refine ⟨k1, vs1, rfl, m1 _ _ Go.refl, hq _ W' H' g s' ⟨by rw [count_length]; exact z1, fun W2 H2 g2 i hi => ?_, fun W2 H2 g2 => ?_, fun W2 H2 g2 tr2 i x H3 d y hd => ?_⟩⟩
        · rw [count_length] at hi
          exact ⟨vs1, m1 _ _ g2, by rw [l1.length]; exact hi⟩
        · rw [count_length]
          exact ⟨vs1, m1 _ _ g2, l1.length.symm⟩
        · obtain ⟨T, o, x1, rfl, ho, hn, rfl, f1⟩ := y
          obtain ⟨da, e1, rfl⟩ := count_at hd
          obtain ⟨u1, e3, r3⟩ := (l1.go g2).get e1
          have e5 := f1 _ (m1 _ _ g2)
          rw [e3] at e5
          cases e5
          refine ⟨.inr ⟨T, _, hn, rfl⟩, ?_⟩
          have nw : ¬ W2 T := fun w => by
            obtain ⟨_, z⟩ := tr2 T w
            rw [hn] at z
            cases z
          have g3 : Go W2 H2 W2 (upd H2 T (.frz o (.tup [.int (i : Nat), x1]))) := ⟨fun b u h _ => by rw [upd_ne (ne_of_none h hn)]; exact h, fun b h => .inl h⟩
          rw [Nat.zero_add]
          exact rep_pair ho nw upd_same rfl (r3.go g3)
end
end DL
end
section
set_option maxRecDepth 100000
set_option maxHeartbeats 1000000
/-! DL23: defs over a concrete place; a def of the text by its body -/
namespace DL
open PySem PySem.Spec L2
open PyProof.Rows hiding St

/-- the place that a def's body has -/
abbrev BX (P : Program) (w : World) (K : PySem.W.Frag) (mg : Str → Option Value) (base : Heap) (N : List Str) (qual : Str) (scope : Scope) (f : Addr) (cdv : Value) (A : Around) (outer : List Env) (s : Shared) (H : Hp) (E : XK) : Bx :=
  ⟨cxOf (L2.CX P w) P w K mg base N qual scope f cdv A outer s H E, fun cls d _ H => E cls d H, fun _ => True⟩
theorem Gd.u {B : Bx} {k : Nat} (G : Gd B k) : B.X.A.units + 100 < cLine := by have := G.room.un; omega

theorem fnG_at {P : Program} {w : World} {K : PySem.W.Frag} {mg : Str → Option Value} {base : Heap} {k : Nat} {f : Addr} {fd : FuncData} {x qual : Str} {params : Arguments} {body : List Stmt} {scope : Scope} {dvs : List V} {kws : List (Str × V)}
    {N ps : List Str} {io : Option Nat} {n m : Nat} {g : M Fl} (F : FunD K x qual params body scope dvs kws f fd) (S : FnScope N ps scope) (hn : ps.length = n) (hm : N.length = n + m)
    (hb : ∀ cdv A outer s H E, Gd (BX P w K mg base N qual scope f cdv A outer s H E) k → EvL (BX P w K mg base N qual scope f cdv A outer s H E) body g) :
    FnG P w K mg base (k + 1) f fd ps (spD K io n (runFn io m g)) := by
  obtain ⟨oc, od, dV, kV, doc, pm, an, cdv, ct, osl, rfl, lk, hcd, _, _⟩ := F.ex
  have len : ∀ vs H Q E, spD K io n (runFn io m g) vs H Q E → vs.length = ps.length := fun vs H Q E h => by
    obtain ⟨W, ds, ia, tr, hl, ao, _⟩ := h
    rw [ao.len, hl, hn]
  refine ⟨len, fun A outer s H args us vs Q E hr hg e0 hbi r hsp => ?_⟩
  have hl := len _ _ _ _ hsp
  have KX : K.In s.heap := e0.mod.kin.keeps fun b o e => (e0.bs b o e).1
  have lim : s.heap.NoLimit := e0.mod.nolimit.keeps fun b o e => (e0.bs b o e).1
  have hkind : ∀ y ∈ ps.zip us, scope.names.lookup y.1 = some .local ∨ (scope.names.lookup y.1 = some .cell ∧ ((cellsFrom (s.heap.objs.size + 1) scope.names []).lookup y.1).isSome = true) := fun ⟨nm, v⟩ hy => by
    rcases S.par nm (List.of_mem_zip hy).1 with q | q
    · exact .inl q
    · exact .inr ⟨q, PySem.W.cellsFrom_some _ _ _ (.inl q)⟩
  refine codeAny_call_function hr.depth (KX _ _ lk) rfl S.co S.gen rfl (PySem.W.codeRec_of KX hcd) (hbi _ _ _ _ ?_)
  refine wpAny_newFunctionEnv_cells S.kind hkind fun env he s1 xx => ?_
  subst he
  refine ⟨lim.keeps xx.toInCall.keep, codeAny_func ?_⟩
  obtain ⟨t, ht, hq⟩ := body_ok (B := BX P w K mg base N qual scope f cdv A outer s H E) (fun _ => trivial) rfl hm
    (hb _ _ _ _ _ _ (Gd.of (hr.deeper _) hg S.nd)) hsp
  have I : Inv (cxOf (L2.CX P w) P w K mg base N qual scope f cdv A outer s H E) [] (L2.start N vs) H s1 := inv_start S hr.hd e0 hl r xx
  refine wpAny_mono (ht.run [] s1 (L2.start N vs) H _ I hq) (fun fl s' hs => ?_) fun e s' hs => hs
  have fin : ∀ {σ' : St} {H' : Hp} {v : V} {u : Value}, Inv (cxOf (L2.CX P w) P w K mg base N qual scope f cdv A outer s H E) [] σ' H' s' → RelV v u → Q v H' → CE outer P w H s Q u s' :=
    fun {σ' H' v u} J rv q => ⟨v, H', J.os, J.bare, J.base, J.hok, rv, q⟩
  cases fl with
  | ret u =>
    obtain ⟨v, σ', H', J, rv, q⟩ := hs
    exact fin J rv q
  | next =>
    obtain ⟨σ', H', J, q⟩ := hs
    exact fin (v := V.non) (u := Value.none) J rfl q
  | brk =>
    obtain ⟨_, _, _, q⟩ := hs
    exact False.elim q
  | cont =>
    obtain ⟨_, _, _, q⟩ := hs
    exact False.elim q

abbrev BindOk (x : Str) (st : Stmt) (ps : List Str) : Prop := ∀ (kV doc pm : Value) (an : Option Addr) (cdv ct : Value) (us : List Value), us.length = ps.length → bindArgs (PySem.W.fnOf x x (defArgs st) (defBody st) (defScope st) .none kV doc pm an cdv ct) ⟨us, []⟩ = pure (ps.zip us)
abbrev Known (K : PySem.W.Frag) (x : Str) (st : Stmt) : Prop := ∃ fd, FunD K x x (defArgs st) (defBody st) (defScope st) [] [] (He.ga K x) fd
section
variable {P : Program} {w : World} {K : PySem.W.Frag} {mg : Str → Option Value} {base : Heap} {k : Nat} {x : Str} {st : Stmt} {N ps : List Str} {io : Option Nat} {m : Nat} {g : M Fl} {fn : DFn}
theorem cal_of (F : Known K x st) (gm : mg x = some (.ref (He.ga K x))) (S : FnScope N ps (defScope st)) (hm : N.length = ps.length + m) (hbind : BindOk x st ps) (iok : ∀ i, io = some i → i < ps.length)
    (hb : ∀ cdv A outer s H E, Gd (BX P w K mg base N x (defScope st) (He.ga K x) cdv A outer s H E) k → EvL (BX P w K mg base N x (defScope st) (He.ga K x) cdv A outer s H E) (defBody st) g) :
    Cal P w K mg base (k + 1) x st ps io (runFn io m g) := by
  obtain ⟨fd, F⟩ := F
  exact ⟨⟨fd, F, fnG_at F S rfl hm hb⟩, hbind, gm, iok⟩
def badFn : DFn := fun _ => .bad
theorem cal_bad (F : Known K x st) (gm : mg x = some (.ref (He.ga K x))) (hbind : BindOk x st ps) (iok : ∀ i, io = some i → i < ps.length) : Cal P w K mg base k x st ps io badFn := by
  obtain ⟨fd, F⟩ := F
  exact ⟨⟨fd, F, ⟨fun vs H Q E ⟨W, ds, ia, tr, hl, ao, h⟩ => h.elim, fun A outer s H args us vs Q E hr hg e0 hbi r ⟨W, ds, ia, tr, hl, ao, h⟩ => h.elim⟩⟩, hbind, gm, iok⟩
theorem Cal.mono {j : Nat} (C : Cal P w K mg base j x st ps io fn) (h : j ≤ k) : Cal P w K mg base k x st ps io fn := by
  obtain ⟨⟨fd, F, G⟩, h1, h2, h3⟩ := C
  exact ⟨⟨fd, F, G.mono h⟩, h1, h2, h3⟩
end

/-! ### unary minus -/
def dNeg (f : M D) : M D := fun env => match f env with
  | .ok (.int i) env' => .ok (.int (-i)) env'
  | .ok _ _ => .bad
  | .bad => .bad
  | .ex c d env' => .ex c d env'
end DL
end
section
set_option maxRecDepth 100000
set_option maxHeartbeats 1000000
/-! DL24: the error classes by facts; what a head tells -/
namespace DL
open PySem PySem.Spec L2
open PyProof.Rows hiding St

theorem ev_neg {B : Bx} {e : Expr} {pos : Pos} {f : M D} (h : EvF B e f) : EvF B (.UnaryOp .USub e pos) (dNeg f) := by
  obtain ⟨t, p, h⟩ := h
  refine ⟨_, pe_un un_neg p, fun c W H σ env Q hc s hq => h c W H σ env _ hc s ?_⟩
  unfold dNeg at hq
  cases q : f env with
  | bad => rw [q] at hq; exact hq
  | ex k d env' => rw [q] at hq; exact hq
  | ok d env' =>
    rw [q] at hq
    intro v W' H' g s' r
    cases d with
    | int i =>
      have r' : v = .int i := r
      exact ⟨i, r', hq _ W' H' g s' rfl⟩
    | _ => exact hq.elim

/-! ### the classes -/
def fIof (K : PySem.W.Frag) : Addr := He.ma K (He.ga K "SightError") "__init__"
abbrev FnI : Type := Option (Str × Str × Arguments × FuncBody × Scope × Addr × List Str × Value × Value × Option Addr × Addr)
def fnI (K : PySem.W.Frag) : FnI := match K.lookup (fIof K) with
  | some ⟨_, _, .func fd, _⟩ => some (fd.name, fd.qualname, fd.params, fd.body, fd.scope, fd.globals, fd.closure.map (·.1), fd.defaults, fd.kwdefaults, fd.annotations, fd.builtins)
  | _ => none
def fnIV (st : Stmt) : FnI := some ("__init__", "SightError.__init__", defArgs st, .stmts (defBody st), defScope st, mainGlobals, ["__class__"], .none, .none, none, builtinsNs)
def ccOf (K : PySem.W.Frag) : Addr := match K.lookup (fIof K) with
  | some ⟨_, _, .func fd, _⟩ => (match fd.closure with
    | [(_, c)] => c
    | _ => 0)
  | _ => 0
def cOf (K : PySem.W.Frag) : Addr := match K.lookup (fIof K) with
  | some ⟨_, _, .func fd, _⟩ => (match fd.code with
    | .ref c => c
    | _ => 0)
  | _ => 0
def codB (K : PySem.W.Frag) : Bool := match K.lookup (fIof K) with
  | some ⟨_, _, .func fd, _⟩ => decide (fd.code = .ref (cOf K))
  | _ => false
def oexB (K : PySem.W.Frag) (C : Addr) : Bool := (match K.lookup C with
  | some ⟨.type t, _, .cls cd, sl⟩ => (match cd.mro, sl.toList with
    | .ref C' :: bm, [_, _, _, _, some (.builtin n), _] => decide (t = "type") && (decide (C' = C) && (decide (n = "ValueError.__new__") && (!cd.hasDel && (cd.hasDict && PySem.HandSPX.refsVE bm))))
    | _, _ => false)
  | _ => false) && (He.eqO (PySem.W.findIn K (.ref C) "__setattr__") (some (some (.builtin "object.__setattr__"))) && (decide (PySem.W.subIn K (.ref C) (.type "BaseException") = some true) && (decide (PySem.W.typeIn K (.ref C) = some (.type "type")) && PySem.W.keepIn K (.ref C))))
theorem oexB_ok {K : PySem.W.Frag} {C : Addr} (h : oexB K C = true) : OexC K C := by
  obtain ⟨h1, h⟩ := He.ba h
  obtain ⟨h2, h⟩ := He.ba h
  obtain ⟨h3, h⟩ := He.ba h
  obtain ⟨h4, h5⟩ := He.ba h
  refine ⟨?_, He.eqO_ok h2, of_decide_eq_true h3, of_decide_eq_true h4, h5⟩
  cases q : K.lookup C with
  | none => rw [q] at h1; cases h1
  | some o =>
    obtain ⟨oc, od, dt, sl⟩ := o
    rw [q] at h1
    cases oc with
    | type t =>
      cases dt with
      | cls cd =>
        obtain ⟨n1, n2, n3, n4, n5, n6, n7, n8, n9, n10, n11⟩ := cd
        obtain ⟨sl⟩ := sl
        match n3, sl, h1 with
        | .ref C' :: bm, [k0, k1, k2, k3, some (.builtin n), k5], h1 =>
          have h1 : (decide (t = "type") && (decide (C' = C) && (decide (n = "ValueError.__new__") && (!n11 && (n6 && PySem.HandSPX.refsVE bm))))) = true := h1
          obtain ⟨z1, h1⟩ := He.ba h1
          obtain ⟨z2, h1⟩ := He.ba h1
          obtain ⟨z3, h1⟩ := He.ba h1
          obtain ⟨z4, h1⟩ := He.ba h1
          obtain ⟨z5, z6⟩ := He.ba h1
          obtain rfl := of_decide_eq_true z1
          obtain rfl := of_decide_eq_true z2
          obtain rfl := of_decide_eq_true z3
          have z4 : n11 = false := by simpa using z4
          subst z4 z5
          exact ⟨_, _, _, _, _, _, _, _, _, _, _, _, _, _, _, rfl, z6⟩
      | _ => cases h1
    | _ => cases dt <;> cases h1
def undB (K : PySem.W.Frag) (C : Addr) : Bool := oexB K C && (decide (PySem.W.mroIn K C (.ref (He.ga K "SightError")) = some true) && (He.eqO (PySem.W.ks_superIn K C (He.ga K "SightError") "__init__") (some (some (.builtin "ValueError.__init__"))) &&
  (decide (PySem.W.subIn K (.ref C) (.type "ValueError") = some true) && (He.eqO (PySem.W.findIn K (.ref C) "__init__") (some (some (.ref (fIof K)))) && He.eqO (PySem.W.findIn K (.ref C) "value") (some none)))))
theorem undB_ok {K : PySem.W.Frag} {C : Addr} (h : undB K C = true) : UndK K (He.ga K "SightError") (fIof K) C := by
  obtain ⟨h1, h⟩ := He.ba h
  obtain ⟨h2, h⟩ := He.ba h
  obtain ⟨h3, h⟩ := He.ba h
  obtain ⟨h4, h⟩ := He.ba h
  obtain ⟨h5, h6⟩ := He.ba h
  exact ⟨oexB_ok h1, of_decide_eq_true h2, He.eqO_ok h3, of_decide_eq_true h4, He.eqO_ok h5, He.eqO_ok h6⟩
def excB (K : PySem.W.Frag) (C : Addr) : Bool := He.eqO (PySem.W.findIn K (.ref C) "__getattribute__") (some (some (.builtin "BaseException.__getattribute__"))) && (He.eqO (PySem.W.findIn K (.ref C) "__getattr__") (some none) && (decide (PySem.W.subIn K (.ref C) (.type "BaseException") = some true) && (PySem.W.hasDictIn K C &&
  (He.eqO (PySem.W.findIn K (.ref C) "__class__") (some (some (.builtin "object.__class__"))) && (He.eqO (PySem.W.specialIn K (.builtin "object.__class__") "__get__") (some (some (.builtin "getset_descriptor.__get__"))) && (decide (PySem.W.takesIn K (.builtin "object.__class__") = some true) && decide (PySem.W.mroIn K C (.type "object") = some true)))))))
theorem excB_ok {K : PySem.W.Frag} {C : Addr} (h : excB K C = true) : ExcC K C := by
  obtain ⟨h1, h⟩ := He.ba h
  obtain ⟨h2, h⟩ := He.ba h
  obtain ⟨h3, h⟩ := He.ba h
  obtain ⟨h4, h⟩ := He.ba h
  obtain ⟨h5, h⟩ := He.ba h
  obtain ⟨h6, h⟩ := He.ba h
  obtain ⟨h7, h8⟩ := He.ba h
  exact ⟨He.eqO_ok h1, He.eqO_ok h2, of_decide_eq_true h3, h4, He.eqO_ok h5, He.eqO_ok h6, of_decide_eq_true h7, of_decide_eq_true h8⟩
def pairB (K : PySem.W.Frag) (k l : Str) : Bool := decide (PySem.W.exmOne K (.ref (He.ga K k)) (.ref (He.ga K l)) = some (isSub k l)) && decide (PySem.W.kitOne K (.ref (He.ga K k)) (.ref (He.ga K l)) = some (isSub k l))
def oneB (xs : List Str) (K : PySem.W.Frag) (k : Str) : Bool := undB K (He.ga K k) && (excB K (He.ga K k) && ((He.Fa.glo k).ok K && ((("SightError" : Str) :: xs)).all (pairB K k)))
def hdB (file : Str) (K : PySem.W.Frag) : Bool := (match K.lookup (ccOf K) with
  | some ⟨_, _, .cell (some (.ref d)), _⟩ => decide (d = He.ga K "SightError")
  | _ => false) && (codB K && (PySem.W.codeIn K (.ref (cOf K)) "SightError.__init__" && ((match K.lookup (cOf K) with
  | some ⟨_, _, .fields vs, _⟩ => (match (vs[2]? : Option Value) with
    | some (Value.str f _) => file == f
    | _ => false)
  | _ => false) && ((PySem.W.clsIn K (He.ga K "SightError")).isSome && (He.eqO (PySem.W.nsIn K cStatics "thirdparty.any") (some none) && (decide (PySem.W.typeIn K (.ref (fIof K)) = some (.type "function")) && (He.Fa.glo "SightError").ok K))))))
def exB (file : Str) (xs : List Str) (K : PySem.W.Frag) : Bool := hdB file K && xs.all (oneB xs K)

/-- the __init__ of the text -/
structure IniOk (P : Program) (st : Stmt) : Prop where
  body : ∃ (m : Str) (j : Nat) (p0 p1 p2 ap cp ep q0 q1 q2 q3 : Pos), defBody st = [.Expr (.Call (.Attribute (.Call (.Name "super" p0) [] [] p1) "__init__" ap) [.Constant (.str m) j p2] [] cp) ep, .Assign [.Attribute (.Name "self" q0) "value" q1] (.Name "value" q2) q3] ∧ m.length ≤ sizeLine ∧
    ∃ pl : Env → Sem Bool, ∀ (env : Env), env.scope = defScope st → interactive env = false ∧ eval (.Call (.Attribute (.Call (.Name "super" p0) [] [] p1) "__init__" ap) [.Constant (.str m) j p2] [] cp) env = (do
      let ov ← attributeBase (.Call (.Name "super" p0) [] [] p1) "__init__" env (eval (.Call (.Name "super" p0) [] [] p1) env)
      standAt ap.atName
      let (f, first) ← holding [ov] (getMethod ov "__init__" (pl env))
      callWith cp f first (backTo cp (starEach [.Constant (.str m) j p2] env)) [])
  par : ∃ ar r, (defArgs st).posonlyargs ++ (defArgs st).args = ar :: r ∧ ar.arg = "self"
  scope : NdefX.NScope ["self", "value", "__class__"] ["self", "value"] ["__class__"] (defScope st)
  sup : (defScope st).names.lookup ("super" : Str) = some .globalImplicit
  bind : ∀ (F : NdefX.NF), F.params = defArgs st → ∀ (doc pm ct : Value) (us : List Value), us.length = 2 → bindArgs (F.fd doc pm ct) ⟨us, []⟩ = pure ((["self", "value"] : List Str).zip us)
  top : (P.main.scope.names.lookup ("super" : Str)).isSome = false
theorem excK_of {P : Program} {w : World} {K : PySem.W.Frag} {mg : Str → Option Value} {base : Heap} {xs : List Str} {st : Stmt} (X : K.In base) (G : base.Ns mainGlobals mg) (ms : mg "super" = none) (I : IniOk P st) (hf : fnI K = fnIV st) (hx : exB P.main.file xs K = true) : ExcK P w K mg base xs := by
  obtain ⟨h0, hx⟩ := He.ba hx
  have each : ∀ k ∈ xs, oneB xs K k = true := List.all_eq_true.mp hx
  obtain ⟨a1, h0⟩ := He.ba h0
  obtain ⟨a2, h0⟩ := He.ba h0
  obtain ⟨a3, h0⟩ := He.ba h0
  obtain ⟨a4, h0⟩ := He.ba h0
  obtain ⟨a5, h0⟩ := He.ba h0
  obtain ⟨a6, h0⟩ := He.ba h0
  obtain ⟨a7, a8⟩ := He.ba h0
  have one : ∀ k ∈ xs, UndK K (He.ga K "SightError") (fIof K) (He.ga K k) ∧ ExcC K (He.ga K k) ∧ mg k = some (.ref (He.ga K k)) ∧ ∀ l, l ∈ xs ∨ l = "SightError" → pairB K k l = true := fun k hk => by
    obtain ⟨b1, b⟩ := He.ba (each k hk)
    obtain ⟨b2, b⟩ := He.ba b
    obtain ⟨b3, b4⟩ := He.ba b
    exact ⟨undB_ok b1, excB_ok b2, He.glo_ok X G b3, fun l hl => List.all_eq_true.mp b4 l (hl.elim (fun z => List.mem_cons_of_mem _ z) fun z => z ▸ List.mem_cons_self)⟩
  have pair : ∀ k ∈ xs, ∀ l, l ∈ xs ∨ l = "SightError" → PySem.W.exmOne K (.ref (He.ga K k)) (.ref (He.ga K l)) = some (isSub k l) ∧ PySem.W.kitOne K (.ref (He.ga K k)) (.ref (He.ga K l)) = some (isSub k l) := fun k hk l hl => by
    obtain ⟨c1, c2⟩ := He.ba ((one k hk).2.2.2 l hl)
    exact ⟨of_decide_eq_true c1, of_decide_eq_true c2⟩
  refine ⟨?_, fun k hk => (one k hk).2.2.1, He.glo_ok X G a8, fun k hk l hl => (pair k hk l hl).1, fun k hk l hl => (pair k hk l hl).2, fun k hk => (one k hk).2.1⟩
  -- the __init__
  obtain ⟨oc, od, osl, doc, pm, ct, cc, lk, ecc, ecd⟩ : ∃ (oc : Value) (od : Option Addr) (osl : Array (Option Value)) (doc pm ct : Value) (cc : Addr), K.lookup (fIof K) = some ⟨oc, od, .func ((⟨"__init__", "SightError.__init__", defArgs st, defBody st, defScope st, [("__class__", cc)], cOf K⟩ : NdefX.NF).fd doc pm ct), osl⟩ ∧ ccOf K = cc ∧ True := by
    unfold fnI fnIV at hf
    unfold codB at a2
    cases q : K.lookup (fIof K) with
    | none => rw [q] at hf; cases hf
    | some o =>
      obtain ⟨oc, od, dt, osl⟩ := o
      rw [q] at hf a2
      cases dt with
      | func fd =>
        obtain ⟨n1, n2, n3, n4, n5, n6, n7, n8, n9, n10, n11, n12, n13, n14, n15⟩ := fd
        dsimp only at hf a2
        simp only [Option.some.injEq, Prod.mk.injEq] at hf
        obtain ⟨e1, e2, e3, e4, e5, e6, e7, e8, e9, e10, e11⟩ := hf
        replace a2 := of_decide_eq_true a2
        match n7, e7 with
        | [(y, cc)], e7 =>
          have e7 : y = "__class__" := by simpa using e7
          subst e1 e2 e3 e4 e5 e6 e7 e8 e9 e10 e11 a2
          refine ⟨oc, od, osl, n10, n11, n14, cc, rfl, ?_, trivial⟩
          unfold ccOf
          rw [q]
      | _ => cases hf
  have cell : ∃ cl cld csl, K.lookup cc = some ⟨cl, cld, .cell (some (.ref (He.ga K "SightError"))), csl⟩ := by
    rw [ecc] at a1
    cases q : K.lookup cc with
    | none => rw [q] at a1; cases a1
    | some o =>
      obtain ⟨o1, o2, dt, o3⟩ := o
      rw [q] at a1
      cases dt with
      | cell v =>
        match v, a1 with
        | some (.ref d), a1 =>
          obtain rfl := of_decide_eq_true (show decide (d = He.ga K "SightError") = true from a1)
          exact ⟨_, _, _, rfl⟩
      | _ => cases a1
  have file : ∃ ccl cdd vs ccs file tf, K.lookup (cOf K) = some ⟨ccl, cdd, .fields vs, ccs⟩ ∧ vs[2]? = some (.str file tf) ∧ ((P.main.file : Str) == file) = true := by
    cases q : K.lookup (cOf K) with
    | none => rw [q] at a4; cases a4
    | some o =>
      obtain ⟨o1, o2, dt, o3⟩ := o
      rw [q] at a4
      cases dt with
      | fields vs =>
        dsimp only at a4
        cases q2 : vs[2]? with
        | none => rw [q2] at a4; cases a4
        | some v =>
          rw [q2] at a4
          cases v with
          | str f t => exact ⟨_, _, _, _, _, _, rfl, q2, a4⟩
          | _ => cases a4
      | _ => cases a4
  have S : SupK P K (He.ga K "SightError") (fIof K) cc ⟨"__init__", "SightError.__init__", defArgs st, defBody st, defScope st, [("__class__", cc)], cOf K⟩ :=
    ⟨⟨_, _, _, _, _, _, lk⟩, rfl, a3, file, cell, Option.isSome_iff_exists.mp a5, I.top, He.eqO_ok a6, of_decide_eq_true a7⟩
  obtain ⟨m, j, p0, p1, p2, ap, cp, ep, q0, q1, q2, q3, hb, hm, pl, hev⟩ := I.body
  exact ⟨fIof K, _, init_fn S hb I.par I.scope I.sup ms hm (fun e he => (hev e he).1) pl (fun e he => (hev e he).2) lk, .all (fun us hl => I.bind _ rfl _ _ _ us hl), of_decide_eq_true a7, fun k hk => (one k hk).1⟩
end DL
end
section
set_option maxRecDepth 100000
set_option maxHeartbeats 1000000
/-! DL25: the hook, the facts of a world, a law's end -/
namespace DL
open PySem PySem.Spec L2
open PyProof.Rows hiding St

abbrev AlM : Type := He.AlD × FnI × Bool
def obsM (n : Nat) (fa : List He.Fa) (fn : List He.DefD) (file : Str) (xs : List Str) (g : Addr → Option Obj) : AlM :=
  (He.obsD fa fn (He.frG g (cStatics :: He.asD g n)), fnI (He.frG g (cStatics :: He.asD g n)), exB file xs (He.frG g (cStatics :: He.asD g n)))
structure SaysM (fa : List He.Fa) (fn : List He.DefD) (st : Stmt) (file : Str) (xs : List Str) (K : PySem.W.Frag) : Prop where
  c : He.SaysD fa fn K
  i : fnI K = fnIV st
  e : exB file xs K = true
def hookM (n : Nat) (fa : List He.Fa) (fn : List He.DefD) (st : Stmt) (file : Str) (xs : List Str) : PySem.W.Hook where
  α := AlM
  obs := fun s => obsM n fa fn file xs s.heap.get?
  val := fun _ => (He.valD fn, fnIV st, true)
  says := fun _ h => ∃ K : PySem.W.Frag, K.In h ∧ SaysM fa fn st file xs K
  of := fun _ _ e => ⟨_, He.frG_in, ⟨congrArg (fun z : AlM => z.1) e, congrArg (fun z : AlM => z.2.1) e, congrArg (fun z : AlM => z.2.2) e⟩⟩
  keeps := fun _ _ _ ⟨K, hK, c⟩ k => ⟨K, PySem.W.Frag.In.keeps hK k, c⟩
theorem obsM_eq {n : Nat} {fa : List He.Fa} {fn : List He.DefD} {st : Stmt} {file : Str} {xs : List Str} {g : Addr → Option Obj} {s : Shared} (h : ∀ a, g a = s.heap.get? a) : obsM n fa fn file xs g = (hookM n fa fn st file xs).obs s := by
  have e : g = s.heap.get? := funext h
  rw [e] <;> rfl

/-- what stands at a base -/
structure W0 (P : Program) (w : World) (K : PySem.W.Frag) (mg : Str → Option Value) (base : Heap) (fa : List He.Fa) (fn : List He.DefD) (xs : List Str) : Prop where
  X : K.In base
  G : base.Ns mainGlobals mg
  c : He.SaysD fa fn K
  ex : ExcK P w K mg base xs
section
variable {P : Program} {w : World} {K : PySem.W.Frag} {mg : Str → Option Value} {base : Heap} {fa : List He.Fa} {fn : List He.DefD} {xs : List Str}
theorem W0.free (Z : W0 P w K mg base fa fn xs) (i : Nat) {x : Str} (h : fa[i]? = some (.free x) := by rfl) : mg x = none := He.free_ok Z.X Z.G (Z.c.fact i h)
theorem W0.glo (Z : W0 P w K mg base fa fn xs) (i : Nat) {x : Str} (h : fa[i]? = some (.glo x) := by rfl) : mg x = some (.ref (He.ga K x)) := He.glo_ok Z.X Z.G (Z.c.fact i h)
theorem W0.known (Z : W0 P w K mg base fa fn xs) (i : Nat) {x : Str} {st : Stmt} (h : fn[i]? = some ⟨(x, none), x, x, defArgs st, defBody st, defScope st, [], []⟩ := by rfl) : Known K x st := Z.c.def_ i h
theorem W0.int {B : Bx} {pos : Pos} (Z : W0 P w K B.X.mg base fa fn xs) (i : Nat) {x : Str} {z : Int} (hg : Gl B.X x) (h : fa[i]? = some (.int x z) := by rfl) (hd : (x == ("__debug__" : Str)) = false := by decide +kernel) : EvF B (.Name x pos) (M.pure (.int z)) := by
  obtain ⟨t, e⟩ := He.int_ok Z.X Z.G (Z.c.fact i h)
  exact ev_glob (v := .int z) hg e ⟨t, rfl⟩ (fun W H => rfl) hd
theorem W0.str {B : Bx} {pos : Pos} (Z : W0 P w K B.X.mg base fa fn xs) (i : Nat) {x z : Str} (hg : Gl B.X x) (ok : (decide (z.length ≤ sizeLine) && PyData.strOk z) = true) (h : fa[i]? = some (.str x z) := by rfl) (hd : (x == ("__debug__" : Str)) = false := by decide +kernel) : EvF B (.Name x pos) (M.pure (.str z)) := by
  obtain ⟨t, e⟩ := He.str_ok Z.X Z.G (Z.c.fact i h)
  exact ev_glob (v := .str z) hg e ⟨t, rfl⟩ (fun W H => ⟨rfl, of_decide_eq_true (He.ba ok).1, (He.ba ok).2⟩) hd
end

/-! ### a law's end -/
theorem rep_ints {K : PySem.W.Frag} {W : Addr → Prop} {H : Hp} : ∀ ns : List Int, RepL K W H (ns.map PyData.int) (ns.map V.int)
  | [] => rfl
  | n :: ns => ⟨.int n, _, rfl, rfl, rep_ints ns⟩
theorem law_callG {P : Program} {w : World} {K : PySem.W.Frag} {mg mb : Str → Option Value} {k : Nat} {fa a : Addr} {fd : FuncData} {x : Str} {fn : DFn} {s₁ : Shared} {vs : List Value} {ns : List Int}
    (KX : K.In s₁.heap) (hns : s₁.heap.Ns mainGlobals mg) (hb : s₁.heap.Ns builtinsNs mb) (hbb : ∀ x : Str, x ≠ "__name__" → mb x = bootBuiltins x) (hlim : s₁.heap.NoLimit) (hg : s₁.gens = #[])
    (ha : s₁.heap.get? a = some { cls := .type "list", data := .seq vs.toArray }) (hi : IntsAre vs ns) (hl : ns.length ≤ sizeLine) (hr : Room k callerA)
    (F : ∀ base : Heap, K.In base → base.Ns mainGlobals mg → FnG P w K mg base k fa fd [x] (spD K none 1 fn)) (hbind : ∀ (s : Shared) (u : Value), BindsTo s fd ⟨[u], []⟩ [(x, u)])
    (hsp : ∃ out, fn [.list (ns.map PyData.int)] = .ok (.fz (.bool true)) out) :
    codeAny (model P w) callerA (.call (.ref fa) ⟨[.ref a], []⟩) (fun r s' => r = .ok (.ret (.bool true)) ∧ OldK s₁.heap s'.heap ∧ s'.os = s₁.os ∧ AllBare s'.gens) s₁ := by
  have rv := vals_ints hi
  have lenV := hi.length
  have core : ∀ H : Hp, Only H → SL K (fun _ => False) H a (ns.map V.int) → HOk P w H s₁.heap → (∀ b, H b ≠ none → b = a) → (H a ≠ none → K.lookup a = none) →
      codeAny (model P w) callerA (.call (.ref fa) ⟨[.ref a], []⟩) (fun r s' => r = .ok (.ret (.bool true)) ∧ OldK s₁.heap s'.heap ∧ s'.os = s₁.os ∧ AllBare s'.gens) s₁ := by
    intro H hO hS hok hA hK
    have base_of : ∀ {b : Addr} {o : Obj}, s₁.heap.get? b = some o → H b = none → (hidT s₁.heap H).get? b = some o := fun e n => hidT_get e n
    have noA : ∀ {b : Addr} {o : Obj} {es : Array DictEntry} {ep : Nat}, s₁.heap.get? b = some o → o.data = .dict es ep → H b = none := fun {b o es ep} e d => by
      cases q : H b with
      | none => rfl
      | some u =>
        have e' : b = a := hA b (by rw [q]; simp)
        subst e'
        rw [ha] at e; cases e
        have d' : Data.seq vs.toArray _ = Data.dict es ep := d
        cases d'
    have nsK : ∀ {b : Addr} {m : Str → Option Value}, s₁.heap.Ns b m → (hidT s₁.heap H).Ns b m := fun {b m} ⟨o, es, ep, e, d, r⟩ => ⟨o, es, ep, base_of e (noA e d), d, r⟩
    have hKb : K.In (hidT s₁.heap H) := fun b o e => base_of (KX b o e) (by
      cases q : H b with
      | none => rfl
      | some u =>
        have e' : b = a := hA b (by rw [q]; simp)
        subst e'
        rw [hK (by rw [q]; simp)] at e; cases e)
    have hM : Mod K mg (hidT s₁.heap H) := ⟨hKb, nsK hns, ⟨mb, nsK hb, hbb⟩, let ⟨mc, h1, h2⟩ := hlim; ⟨mc, nsK h1, h2⟩⟩
    have e0 : Env0 P w K mg (hidT s₁.heap H) callerA [] s₁ H := ⟨rfl, hM, fun b o e => of_hidT e, Nat.le_of_eq (hidT_size _ _), trivial, fun b hb => absurd (show b ∈ ([] : List Addr) from hb) (by simp), hok, .of_eq hg⟩
    obtain ⟨out, hfn⟩ := hsp
    have sp : spD K none 1 fn [.ref a] H (fun v _ => v = .bl true) fun _ _ _ => False := by
      refine ⟨fun _ => False, [.list (ns.map PyData.int)], none, fun _ z => z.elim, rfl, ⟨rfl, fun i d v _ h1 h2 => ?_, fun i z => (nomatch z), fun _ => rfl⟩, ?_⟩
      · cases i with
        | zero =>
          cases h1
          cases h2
          exact ⟨a, _, rfl, hS, rep_ints ns, by rw [List.length_map]; exact hl⟩
        | succ i => cases h1
      · rw [hfn]
        exact fun v W' H' b o r => r
    refine codeAny_mono ((F _ hKb (nsK hns)).run callerA [] s₁ H ⟨[.ref a], []⟩ [.ref a] [.ref a] _ _ hr rfl e0 (hbind s₁ (.ref a)) (.cons rfl .nil) sp) fun r s' h => ?_
    cases r with
    | error e =>
      obtain ⟨_, _, _, _, _, _, _, _, _, _, _, _, _, z⟩ := h
    | ok fl =>
      cases fl with
      | next => exact False.elim h
      | brk => exact False.elim h
      | cont => exact False.elim h
      | ret u =>
        obtain ⟨v, H', os, bare, un, hok', r', q⟩ := h
        have q' : v = .bl true := q
        subst q'
        obtain rfl : u = Value.bool true := r'
        refine ⟨rfl, OldK.of_keep fun b o e => ?_, os, bare⟩
        cases q : H b with
        | none => exact un.keep b o e q (by intro z; exact absurd (show b ∈ ([] : List Addr) from z) (by simp)) (by simp)
        | some u =>
          rcases hO b with z | ⟨ob, xs, z⟩
          · rw [q] at z; cases z
          · have z2 := un.frzs b ob _ z
            obtain ⟨e1, _⟩ := hok b _ z
            obtain ⟨e2, _⟩ := hok' b _ z2
            rw [e] at e1; cases e1
            exact e2
  cases hk : K.lookup a with
  | some o =>
    have e := KX a o hk
    rw [ha] at e
    cases e
    refine core (fun _ => none) (fun _ => .inl rfl) (.inr ⟨vs.toArray, _, hk, by rw [List.size_toArray, lenV]; exact hl, by simpa using rv⟩) (fun b u z => by have z' : (none : Option HO) = some u := z; cases z') (fun b z => absurd rfl z) fun z => absurd rfl z
  | none =>
    refine core (fun b => if b = a then some (.frz { cls := .type "list", data := .seq vs.toArray } (.lst (ns.map V.int))) else none) (fun b => ?_) (.inl ⟨fun z => z, .inr ⟨{ cls := .type "list", data := .seq vs.toArray }, if_pos rfl⟩⟩) (fun b u z => ?_) (fun b z => ?_) fun _ => hk
    · by_cases hb : b = a
      · exact .inr ⟨_, _, if_pos hb⟩
      · exact .inl (if_neg hb)
    · by_cases hb : b = a
      · have z' := (if_pos hb).symm.trans z
        cases z'
        subst hb
        exact ⟨ha, by rw [List.length_map]; exact hl, vs, _, rv, ha⟩
      · have z' := (if_neg hb).symm.trans z
        cases z'
    · by_cases hb : b = a
      · exact hb
      · exact absurd (if_neg hb) z
theorem walk_G {l : PySem.W.OpenLaw} {n k : Nat} {q : Program} {loose : List Str} {XP : (Str → Option Value) → Heap → Prop} {YP : World → Heap → Prop} {d : DefRec} {x : Str}
    (hn : l.most = some n) (hn2 : n ≤ sizeLine) (hdf : d.params.defaults = []) (hr : Room k callerA)
    (F : ∀ (w : World) (mg : Str → Option Value) (fa : Addr) (h : Heap), YP w h → h.Ns mainGlobals mg → mg d.name = some (.ref fa) →
      ∃ (K : PySem.W.Frag) (fd : FuncData) (fn : DFn), K.In h ∧ (∀ (s : Shared) (u : Value), BindsTo s fd ⟨[u], []⟩ [(x, u)]) ∧
        (∀ ns : List Int, ns.length ≤ n → (∀ z ∈ ns, Builtin.Int.intBits z ≤ 1048576) → ∃ out, fn [.list (ns.map PyData.int)] = .ok (.fz (.bool true)) out) ∧
        ∀ base : Heap, K.In base → base.Ns mainGlobals mg → FnG l.prog w K mg base k fa fd [x] (spD K none 1 fn)) :
    PySem.W.WalkO q loose XP YP l.row.toRowW d [] (fun f vs => PySem.call f vs) := by
  refine Att.attach_callB hn hdf fun w s₀ s₁ mg mb fa o pm cd doc a vs ns G Y ho hd hcd hmg hobj hints hlen hbits hg => ?_
  obtain ⟨K, fd, fn, KX, hb, hsp, hF⟩ := F w mg fa _ Y G.T.g hmg
  exact law_callG KX G.T.g G.T.b G.T.builtins G.T.nolimit hg hobj hints (Nat.le_trans hlen hn2) hr hF hb (hsp ns hlen hbits)
end DL
end
section
set_option maxRecDepth 100000
set_option maxHeartbeats 1000000
/-! DL26: comprehensions, their parts told with the place's facts -/
namespace DL
open PySem PySem.Spec L2
open PyProof.Rows hiding St
section
variable {B : Bx} {elt tg it : Expr} {ifs : List Expr} {scope : Scope} {own : List (Str × Nat)} {pos : Pos} {fi : M (List D)} {h : D → M Unit} {t : M Bool} {f : M D} {k : Nat}
theorem eo_lcG (G : Gd B k) (hi : EvIt B tg it fi) (ok : blkC B.X.N B.X.env.scope scope own = true)
    (hg : ∀ s H C cl fp, Gd (B.blk s H scope C cl fp) k → EvTg (B.blk s H scope C cl fp) tg (own.map (·.2)) h) (ht : ∀ s H C cl fp, Gd (B.blk s H scope C cl fp) k → EvTs (B.blk s H scope C cl fp) ifs t) (he : ∀ s H C cl fp, Gd (B.blk s H scope C cl fp) k → EvF (B.blk s H scope C cl fp) elt f)
    (hs : ∀ x, foldedSetIterable it B.X.env x = pure x := by intro _; rfl) : EvO B (.ListComp elt [⟨tg, it, ifs, 0⟩] scope pos) (dLc fi h t f (own.map (·.2))) :=
  eo_lc G hi ok (fun s H C cl fp => hg s H C cl fp (G.blk s H scope C cl fp)) (fun s H C cl fp => ht s H C cl fp (G.blk s H scope C cl fp)) (fun s H C cl fp => he s H C cl fp (G.blk s H scope C cl fp)) hs
theorem es_setLcG {i : Nat} {y : Str} {py spos : Pos} (G : Gd B k) (hi : EvIt B tg it fi) (ok : blkC B.X.N B.X.env.scope scope own = true)
    (hg : ∀ s H C cl fp, Gd (B.blk s H scope C cl fp) k → EvTg (B.blk s H scope C cl fp) tg (own.map (·.2)) h) (ht : ∀ s H C cl fp, Gd (B.blk s H scope C cl fp) k → EvTs (B.blk s H scope C cl fp) ifs t) (he : ∀ s H C cl fp, Gd (B.blk s H scope C cl fp) k → EvF (B.blk s H scope C cl fp) elt f)
    (hs : ∀ x, foldedSetIterable it B.X.env x = pure x := by intro _; rfl) (hy : B.X.N[i]? = some y := by rfl) (hyl : B.X.env.scope.names.lookup y = some .local := by rfl)
    (hsw : swapsWith (.ListComp elt [⟨tg, it, ifs, 0⟩] scope pos) (some (.Name y py)) spos.line B.X.env = pure true := by exact sw_true rfl rfl rfl rfl) :
    EvS B (.Assign [.Name y py] (.ListComp elt [⟨tg, it, ifs, 0⟩] scope pos) spos) (lSet i (dLc fi h t f (own.map (·.2)))) :=
  es_setLc G hi ok (fun s H C cl fp => hg s H C cl fp (G.blk s H scope C cl fp)) (fun s H C cl fp => ht s H C cl fp (G.blk s H scope C cl fp)) (fun s H C cl fp => he s H C cl fp (G.blk s H scope C cl fp)) hs hy hyl hsw
end
end DL
end
section
set_option maxRecDepth 100000
set_option maxHeartbeats 1000000
/-! DL27: tuple(zip(a, b)): the pairs are all kept -/
namespace DL
open PySem PySem.Spec L2
open PyProof.Rows hiding St

theorem nolen_zip : typeLookup (.type "zip") "__len__" = pure none := am_miss_of_fast (by decide +kernel)
theorem nohint_zip : typeLookup (.type "zip") "__length_hint__" = pure none := am_miss_of_fast (by decide +kernel)

section
variable {prog : Program} {w : World} {A : Around} {E : Value → Shared → Prop} {s : Shared} {z TI TO T i1 i2 : Addr} {fp1 fp2 : List Addr} {n1 n2 i : Nat} {P1 P2 : Nat → Value → Prop} {St1 St2 : Nat → Heap → Prop} {f : Bool} {oT : Obj}
/-- the next pair while the first one is still there -/
theorem held_item {Q : Value → Shared → Prop} (S : ZipSep2 z TI TO i1 i2 fp1 fp2) (D1 : Draws prog w A i1 fp1 n1 P1 St1) (D2 : Draws prog w A i2 fp2 n2 P2 St2)
    (hz : IsZipHeld s.heap z TI TO T f) (hT : s.heap.get? T = some oT) (hTI : IsTupOf2 s.heap TI (.ref i1) (.ref i2)) (st1 : St1 i s.heap) (st2 : St2 i s.heap) (l1 : i < n1) (l2 : i < n2)
    (hQ : ∀ x1 x2 h' tk, P1 i x1 → P2 i x2 → IsZipHeld h' z TI TO T true → St1 (i + 1) h' → St2 (i + 1) h' → IsTupOf2 h' s.heap.objs.size x1 x2 →
      (∀ c o, c ≠ z → c ≠ i1 → c ≠ i2 → s.heap.get? c = some o → h'.get? c = some o) → Q (.ref s.heap.objs.size) { s with heap := h', toks := tk }) :
    wpAny (model prog w) A (Builtin.«zip.__next__» ⟨[.ref z], []⟩) (fun fin s' => ∃ v, fin = .done (.ret v) ∧ Q v s') E s := by
  obtain ⟨hp, g, d, tk0, os⟩ := s
  show wpAny _ _ (field (.ref z) 2 >>= _) _ _ _
  refine wpAny_bind (wpAny_field hz rfl (x := .bool false) rfl ?_)
  show wpAny _ _ (field (.ref z) 3 >>= _) _ _ _
  refine wpAny_bind (wpAny_field hz rfl (x := .ref TI) rfl ?_)
  refine wpAny_bind (wpAny_seqItems hTI rfl ?_)
  show wpAny _ _ (Builtin.SmallTypes.ownedTupleIsFree (.ref z) >>= _) _ _ _
  refine wpAny_bind (wpAny_tupleHeld_zip hz hT fun g0 hz0 hs0 => ?_)
  replace hs0 : Heap.SameBut z hp g0 := hs0
  simp only [Bool.false_eq_true, if_false]
  refine wpAny_bind ?_
  rw [← Array.forIn_toList]
  simp only [List.forIn_cons, List.forIn_nil]
  refine wpAny_bind (wpAny_bind (wpAny_holding ?_))
  show wpAny _ _ (Builtin.SmallTypes.nextOf (.ref i1) >>= _) _ _ ⟨g0, g, d, tk0, os⟩
  refine wpAny_bind (D1.item i _ _ _ l1 (D1.over st1 hs0 S.zf1) fun x1 p1 tk1 hx1 sn1 hp1 => wpAny_pure ?_)
  replace hp1 : Heap.SameBut i1 g0 p1 := hp1
  refine wpAny_pure ?_
  refine wpAny_bind (wpAny_bind (wpAny_holding ?_))
  show wpAny _ _ (Builtin.SmallTypes.nextOf (.ref i2) >>= _) _ _ ⟨p1, g, d, tk1, os⟩
  refine wpAny_bind (D2.item i _ _ _ l2 (D2.over (D2.over st2 hs0 S.zf2) hp1 S.sep1_2) fun x2 p2 tk2 hx2 sn2 hp2 => wpAny_pure ?_)
  replace hp2 : Heap.SameBut i2 p1 p2 := hp2
  refine wpAny_pure (wpAny_pure ?_)
  show wpAny _ _ (newTuple [x1, x2] >>= _) _ _ _
  refine wpAny_bind (wpAny_newTuple ?_)
  have hsz : p2.objs.size = hp.objs.size := by rw [hp2.1, hp1.1, hs0.1]
  have hz2 : IsZipHeld p2 z TI TO T true := hp2.extBut _ _ S.zi2 (hp1.extBut _ _ S.zi1 hz0)
  have hk : ∀ c o, c ≠ z → c ≠ i1 → c ≠ i2 → hp.get? c = some o → p2.get? c = some o := fun c o c1 c2 c3 e => hp2.extBut _ _ c3 (hp1.extBut _ _ c2 (hs0.extBut _ _ c1 e))
  refine wpAny_pure ⟨_, rfl, ?_⟩
  show Q (.ref p2.objs.size) ⟨p2.push { cls := .type "tuple", data := .seq #[x1, x2] }, g, d, tk2, os⟩
  have hn : IsTupOf2 (p2.push { cls := .type "tuple", data := .seq #[x1, x2] }) p2.objs.size x1 x2 := Heap.get?_push_size _ rfl
  rw [hsz] at hn ⊢
  exact hQ x1 x2 _ tk2 hx1 hx2 (Heap.get?_push_of_some _ hz2) (D1.frame _ _ _ (D1.over sn1 hp2 S.sep2_1) fun b hb o e => Heap.get?_push_of_some _ e) (D2.frame _ _ _ sn2 fun b hb o e => Heap.get?_push_of_some _ e) hn
    fun c o c1 c2 c3 e => Heap.get?_push_of_some _ (hk c o c1 c2 c3 e)
theorem held_end {Q : Fin → Shared → Prop} (S : ZipSep2 z TI TO i1 i2 fp1 fp2) (D1 : Draws prog w A i1 fp1 n1 P1 St1) (D2 : Draws prog w A i2 fp2 n2 P2 St2)
    (hz : IsZipHeld s.heap z TI TO T f) (hT : s.heap.get? T = some oT) (hTI : IsTupOf2 s.heap TI (.ref i1) (.ref i2)) (st1 : St1 i s.heap) (st2 : St2 i s.heap) (l1 : i ≤ n1) (l2 : i ≤ n2) (hend : i = n1 ∨ i = n2)
    (hE : ∀ h' tk e, (∀ c o, c ≠ z → c ≠ i1 → c ≠ i2 → s.heap.get? c = some o → h'.get? c = some o) → (∃ o, h'.get? e = some o ∧ o.cls = .type "StopIteration") → E (.ref e) { s with heap := h', toks := tk }) :
    wpAny (model prog w) A (Builtin.«zip.__next__» ⟨[.ref z], []⟩) Q E s := by
  obtain ⟨hp, g, d, tk0, os⟩ := s
  show wpAny _ _ (field (.ref z) 2 >>= _) _ _ _
  refine wpAny_bind (wpAny_field hz rfl (x := .bool false) rfl ?_)
  show wpAny _ _ (field (.ref z) 3 >>= _) _ _ _
  refine wpAny_bind (wpAny_field hz rfl (x := .ref TI) rfl ?_)
  refine wpAny_bind (wpAny_seqItems hTI rfl ?_)
  show wpAny _ _ (Builtin.SmallTypes.ownedTupleIsFree (.ref z) >>= _) _ _ _
  refine wpAny_bind (wpAny_tupleHeld_zip hz hT fun g0 hz0 hs0 => ?_)
  replace hs0 : Heap.SameBut z hp g0 := hs0
  simp only [Bool.false_eq_true, if_false]
  refine wpAny_bind ?_
  rw [← Array.forIn_toList]
  simp only [List.forIn_cons, List.forIn_nil]
  refine wpAny_bind (wpAny_bind (wpAny_holding ?_))
  show wpAny _ _ (Builtin.SmallTypes.nextOf (.ref i1) >>= _) _ _ ⟨g0, g, d, tk0, os⟩
  by_cases hlt1 : i < n1
  · have hi2 : i = n2 := by omega
    refine wpAny_bind (D1.item i _ _ _ hlt1 (D1.over st1 hs0 S.zf1) fun x1 p1 tk1 hx1 sn1 hp1 => wpAny_pure ?_)
    replace hp1 : Heap.SameBut i1 g0 p1 := hp1
    refine wpAny_pure ?_
    refine wpAny_bind (wpAny_bind (wpAny_holding ?_))
    show wpAny _ _ (Builtin.SmallTypes.nextOf (.ref i2) >>= _) _ _ ⟨p1, g, d, tk1, os⟩
    refine wpAny_bind (D2.done ⟨p1, g, d, tk1, os⟩ _ _ (by rw [← hi2]; exact D2.over (D2.over st2 hs0 S.zf2) hp1 S.sep1_2) fun q e hq he => ?_)
    exact hE q tk1 e (fun c o c1 c2 c3 x => hq _ _ c3 (hp1.extBut _ _ c2 (hs0.extBut _ _ c1 x))) he
  · have hi1 : i = n1 := by omega
    refine wpAny_bind (D1.done ⟨g0, g, d, tk0, os⟩ _ _ (by rw [← hi1]; exact D1.over st1 hs0 S.zf1) fun q e hq he => ?_)
    exact hE q tk0 e (fun c o c1 c2 c3 x => hq _ _ c2 (hs0.extBut _ _ c1 x)) he
theorem next_held {Q : Option Value → Shared → Prop} (S : ZipSep2 z TI TO i1 i2 fp1 fp2) (D1 : Draws prog w A.in1 i1 fp1 n1 P1 St1) (D2 : Draws prog w A.in1 i2 fp2 n2 P2 St2)
    (hz : IsZipHeld s.heap z TI TO T f) (hT : s.heap.get? T = some oT) (hTI : IsTupOf2 s.heap TI (.ref i1) (.ref i2)) (st1 : St1 i s.heap) (st2 : St2 i s.heap) (l1 : i < n1) (l2 : i < n2)
    (hQ : ∀ x1 x2 h' tk, P1 i x1 → P2 i x2 → IsZipHeld h' z TI TO T true → St1 (i + 1) h' → St2 (i + 1) h' → IsTupOf2 h' s.heap.objs.size x1 x2 →
      (∀ c o, c ≠ z → c ≠ i1 → c ≠ i2 → s.heap.get? c = some o → h'.get? c = some o) → Q (some (.ref s.heap.objs.size)) { s with heap := h', toks := tk }) :
    wpAny (model prog w) A (pyNext (.ref z)) Q E s := by
  have hTy : s.TypeIs (.ref z) "zip" := ⟨_, hz, rfl⟩
  unfold pyNext
  exact wpAny_bind (wpAny_attempt (wpAny_callSpecial?_slot (name := Str.ofString "__next__") hTy F.slot_zip_next
    (wpAny_call_entry F.slot_zip_next hTy F.entry_zip_next (held_item S D1 D2 hz hT hTI st1 st2 l1 l2 fun x1 x2 h' tk y1 y2 b1 b2 b3 b4 b5 => wpAny_pure (hQ x1 x2 h' tk y1 y2 b1 b2 b3 b4 b5)) (F.args_zip_next_1 _))))
theorem next_held_end {Q : Option Value → Shared → Prop} (S : ZipSep2 z TI TO i1 i2 fp1 fp2) (D1 : Draws prog w A.in1 i1 fp1 n1 P1 St1) (D2 : Draws prog w A.in1 i2 fp2 n2 P2 St2)
    (hz : IsZipHeld s.heap z TI TO T f) (hT : s.heap.get? T = some oT) (hTI : IsTupOf2 s.heap TI (.ref i1) (.ref i2)) (st1 : St1 i s.heap) (st2 : St2 i s.heap) (l1 : i ≤ n1) (l2 : i ≤ n2) (hend : i = n1 ∨ i = n2)
    (hQ : ∀ h' tk, (∀ c o, c ≠ z → c ≠ i1 → c ≠ i2 → s.heap.get? c = some o → h'.get? c = some o) → Q none { s with heap := h', toks := tk }) :
    wpAny (model prog w) A (pyNext (.ref z)) Q E s := by
  have hTy : s.TypeIs (.ref z) "zip" := ⟨_, hz, rfl⟩
  unfold pyNext
  refine wpAny_bind (wpAny_attempt (wpAny_callSpecial?_slot (name := Str.ofString "__next__") hTy F.slot_zip_next
    (wpAny_call_entry F.slot_zip_next hTy F.entry_zip_next (held_end S D1 D2 hz hT hTI st1 st2 l1 l2 hend fun h' tk e hk he => ?_) (F.args_zip_next_1 _))))
  obtain ⟨o, ho, hc⟩ := he
  refine wpAny_bind (wpAny_isInstance (T := "StopIteration") (b := true) ⟨o, ho, hc⟩ isSubtype_stop ?_)
  exact wpAny_pure (hQ _ _ hk)
end
end DL
end
section
set_option maxRecDepth 100000
set_option maxHeartbeats 1000000
/-! DL28: tuple(zip(a, b)): the loop that gathers the pairs -/
namespace DL
open PySem PySem.Spec L2
open PyProof.Rows hiding St

section
variable {X : Cx} {A : Around} {pins : List (Addr × Obj)} {σ : St} {H : Hp} {s : Shared}
theorem sk_draws0 (hh : A.handled = none) (I : Inv X pins σ H s) {k : Sk} {vs : List V} {it : Addr} {i : Nat} (h : SkAt X.K H k vs) (st : SkIt k it i s.heap) (ne : ∀ b, k.ad b → b ≠ it) :
    ∃ fp n P St, Draws X.prog X.w A it fp n P St ∧ St i s.heap ∧ n = vs.length ∧ it ∈ fp ∧ (∀ b ∈ fp, b = it ∨ k.ad b) ∧ (∀ j x, P j x → ∃ v, vs[j]? = some v ∧ RelV v x) ∧ ∀ j h', St j h' → SkIt k it j h' := by
  cases k with
  | li a =>
    obtain ⟨its, rv, p, hz⟩ := I.list h
    refine ⟨_, _, _, _, Draws.list hh it a (ne a rfl) its.toArray, ⟨st, p.isList⟩, ?_, by simp, fun b hb => ?_, fun j x e => ?_, fun j h' q => q.1⟩
    · rw [List.size_toArray]; exact rv.length.symm
    · have : b = it ∨ b = a := by simpa using hb
      exact this
    · exact vals_at rv (by simpa using e)
  | tu a =>
    obtain ⟨its, rv, p, hz⟩ := I.tuple h
    refine ⟨_, _, _, _, Draws.tuple hh it a (ne a rfl) its.toArray, ⟨st, p⟩, ?_, by simp, fun b hb => ?_, fun j x e => ?_, fun j h' q => q.1⟩
    · rw [List.size_toArray]; exact rv.length.symm
    · have : b = it ∨ b = a := by simpa using hb
      exact this
    · exact vals_at rv (by simpa using e)
  | tx x =>
    obtain ⟨t, st⟩ := st
    have h : vs = charsV x := h
    subst h
    refine ⟨_, _, _, _, Draws.text hh it x t, st, ?_, by simp, fun b hb => .inl (by simpa using hb), fun j y ⟨c, u, e, q⟩ => ?_, fun j h' q => ⟨t, q⟩⟩
    · unfold charsV; simp
    · exact ⟨_, charsV_at e, u, q⟩
end

def ZS (k1 k2 : Sk) (N L : Nat) (i : Nat) (h : Heap) : Prop :=
  (IsZip h (N + 4) (N + 2) (N + 3) .none ∨ ∃ T f oT, IsZipHeld h (N + 4) (N + 2) (N + 3) T f ∧ h.get? T = some oT ∧ N + 4 < T ∧ T ≠ L) ∧ IsTupOf2 h (N + 2) (.ref N) (.ref (N + 1)) ∧ (∃ x y, IsTupOf2 h (N + 3) x y) ∧ SkIt k1 N i h ∧ SkIt k2 (N + 1) i h
def zch (N L : Nat) : List Addr := [N + 4, N + 2, N + 3, N, N + 1, L]
/-- the values gathered -/
def Pr (H0 H : Hp) (xs ys vs : List V) : Prop := ∀ (j : Nat) v, vs[j]? = some v → ∃ T o x y, v = .ref T ∧ Obj.dict o = none ∧ H0 T = none ∧ H T = some (.frz o (.tup [x, y])) ∧ xs[j]? = some x ∧ ys[j]? = some y
def Ext (H H' : Hp) : Prop := ∀ b o, H b = some o → H' b = some o
section
variable {X : Cx} {pins : List (Addr × Obj)} {σ : St} {k1 k2 : Sk} {N L : Nat} {xs ys : List V} {R : Result → Shared → Prop} {res : Value}
theorem zip_gather (a1 : ∀ b, k1.ad b → b < N) (a2 : ∀ b, k2.ad b → b < N) (hL : N + 5 ≤ L) {H0 : Hp} (hx : ∀ H', Ext H0 H' → SkAt X.K H' k1 xs) (hy : ∀ H', Ext H0 H' → SkAt X.K H' k2 ys) (hz : min xs.length ys.length ≤ sizeLine) :
    ∀ (k i : Nat) (A : Around) (s : Shared) (H : Hp) (vs : List V) (acc : List Value) (c : Nat), A.handled = none → min xs.length ys.length - i = k → i ≤ min xs.length ys.length → Inv X pins σ H s → Ext H0 H → ZS k1 k2 N L i s.heap → (∀ b ∈ zch N L, FpOk X pins H b) → L < s.heap.objs.size →
      s.heap.get? L = some { cls := .type "list", dict := none, data := .seq acc.toArray c, slots := #[] } → Vals vs acc → vs.length = i → Pr H0 H xs ys vs →
      (∀ (H' : Hp) (s' : Shared) (vs' : List V) (acc' : List Value) (c' : Nat), Inv X pins σ H' s' → Ext H0 H' → s'.gens = s.gens → s'.drawn = s.drawn → s'.os = s.os → s'.heap.get? L = some { cls := .type "list", dict := none, data := .seq acc'.toArray c', slots := #[] } → Vals vs' acc' → vs'.length = min xs.length ys.length → Pr H0 H' xs ys vs' → R (.ok (.ret res)) s') →
      codeAny (model X.prog X.w) A (.builtin "list.extend.loop" ⟨[.ref L, .ref (N + 4), res], []⟩) R s := by
  have nL : ∀ j, j < 5 → N + j ≠ L := fun j hj e => by
    have e' : (N : Nat) + j = (L : Nat) := e
    have hL' : (N : Nat) + 5 ≤ (L : Nat) := hL
    omega
  intro k
  induction k with
  | zero =>
    intro i A s H vs acc c hh hk hi I ext zs hf hLs hS rv lv pr hR
    obtain ⟨hzip, hTI, ⟨x0, y0, hTO⟩, h1, h2⟩ := zs
    obtain ⟨fp1, n1, P1, S1, D1, st1, e1, m1, f1, p1, q1⟩ := sk_draws0 (A := A.in1.in1) hh I (hx H ext) h1 fun b hb => Nat.ne_of_lt (a1 b hb)
    obtain ⟨fp2, n2, P2, S2, D2, st2, e2, m2, f2, p2, q2⟩ := sk_draws0 (A := A.in1.in1) hh I (hy H ext) h2 fun b hb => Nat.ne_of_lt (Nat.lt_succ_of_lt (a2 b hb))
    have nf1 : ∀ j, 1 ≤ j → N + j ∉ fp1 := fun j hj hm => by
      rcases f1 _ hm with e | e
      · have : N + j = N := e
        omega
      · have : N + j < N := a1 _ e
        omega
    have nf2 : ∀ j, j ≠ 1 → N + j ∉ fp2 := fun j hj hm => by
      rcases f2 _ hm with e | e
      · have : N + j = N + 1 := e
        omega
      · have : N + j < N := a2 _ e
        omega
    have S : ZipSep2 (N + 4) (N + 2) (N + 3) N (N + 1) fp1 fp2 := ⟨show (N + 2 : Nat) ≠ N + 4 by omega, show (N + 3 : Nat) ≠ N + 4 by omega, show (N + 2 : Nat) ≠ N + 3 by omega, show (N + 2 : Nat) ≠ N by omega, m1, nf1 4 (by omega), nf1 3 (by omega),
      show (N + 2 : Nat) ≠ N + 1 by omega, m2, nf2 4 (by omega), nf2 3 (by omega), nf2 0 (by omega), nf1 1 (by omega)⟩
    have fin : ∀ (h' : Heap) (tk' : Nat), (∀ b o, b ≠ N + 4 → b ≠ N + 3 → b ≠ N → b ≠ N + 1 → s.heap.get? b = some o → h'.get? b = some o) → R (.ok (.ret res)) { s with heap := h', toks := tk' } := fun h' tk' hk' => by
      refine hR H _ vs acc c (I.turnedL (t' := tk') (ch := zch N L) (fun b o hb q => hk' b o (fun z => hb (by simp [zch, z])) (fun z => hb (by simp [zch, z])) (fun z => hb (by simp [zch, z])) (fun z => hb (by simp [zch, z])) q) hf) ext rfl rfl rfl ?_ rv (by rw [lv]; omega) pr
      exact hk' L _ (nL 4 (by omega)).symm (nL 3 (by omega)).symm (nL 0 (by omega)).symm (nL 1 (by omega)).symm hS
    refine codeAny_builtin F.entry_extend_loop ?_
    rw [Around.under_plainId F.plain_extend_loop _]
    show wpAny _ A.in1 (pyNext (.ref (N + 4)) >>= _) _ _ s
    refine wpAny_bind ?_
    rcases hzip with hzip | ⟨T, f, oT, hzip, hT, lT, nT⟩
    · exact wpAny_pyNext_zipD2_end S D1 D2 hzip hTI hTO st1 st2 (by rw [e1]; omega) (by rw [e2]; omega) (by rw [e1, e2]; omega) fun h' tk' hk' => wpAny_pure (fin h' tk' fun b o b1 b2 b3 b4 e => hk' b o b1 b2 b3 b4 e)
    · exact next_held_end S D1 D2 hzip hT hTI st1 st2 (by rw [e1]; omega) (by rw [e2]; omega) (by rw [e1, e2]; omega) fun h' tk' hk' => wpAny_pure (fin h' tk' fun b o b1 b2 b3 b4 e => hk' b o b1 b3 b4 e)
  | succ k ih =>
    intro i A s H vs acc c hh hk hi I ext zs hf hLs hS rv lv pr hR
    have hlt : i < min xs.length ys.length := by omega
    obtain ⟨hzip, hTI, ⟨x0, y0, hTO⟩, h1, h2⟩ := zs
    obtain ⟨fp1, n1, P1, S1, D1, st1, e1, m1, f1, p1, q1⟩ := sk_draws0 (A := A.in1.in1) hh I (hx H ext) h1 fun b hb => Nat.ne_of_lt (a1 b hb)
    obtain ⟨fp2, n2, P2, S2, D2, st2, e2, m2, f2, p2, q2⟩ := sk_draws0 (A := A.in1.in1) hh I (hy H ext) h2 fun b hb => Nat.ne_of_lt (Nat.lt_succ_of_lt (a2 b hb))
    have nf1 : ∀ j, 1 ≤ j → N + j ∉ fp1 := fun j hj hm => by
      rcases f1 _ hm with e | e
      · have : N + j = N := e
        omega
      · have : N + j < N := a1 _ e
        omega
    have nf2 : ∀ j, j ≠ 1 → N + j ∉ fp2 := fun j hj hm => by
      rcases f2 _ hm with e | e
      · have : N + j = N + 1 := e
        omega
      · have : N + j < N := a2 _ e
        omega
    have S : ZipSep2 (N + 4) (N + 2) (N + 3) N (N + 1) fp1 fp2 := ⟨show (N + 2 : Nat) ≠ N + 4 by omega, show (N + 3 : Nat) ≠ N + 4 by omega, show (N + 2 : Nat) ≠ N + 3 by omega, show (N + 2 : Nat) ≠ N by omega, m1, nf1 4 (by omega), nf1 3 (by omega),
      show (N + 2 : Nat) ≠ N + 1 by omega, m2, nf2 4 (by omega), nf2 3 (by omega), nf2 0 (by omega), nf1 1 (by omega)⟩
    have hzl : N + 4 < s.heap.objs.size := by
      rcases hzip with z | ⟨_, _, _, z, _⟩
      · exact Heap.lt_size z
      · exact Heap.lt_size z
    have lt0 : ∀ b ∈ zch N L, b < s.heap.objs.size := fun b hb => by
      have e' : b = N + 4 ∨ b = N + 2 ∨ b = N + 3 ∨ b = N ∨ b = N + 1 ∨ b = L := by simpa [zch] using hb
      have hzl : (N : Nat) + 4 < s.heap.objs.size := hzl
      rcases e' with q | q | q | q | q | q
      · rw [q]; exact hzl
      · rw [q]; show (N : Nat) + 2 < _; omega
      · rw [q]; show (N : Nat) + 3 < _; omega
      · rw [q]; show (N : Nat) < _; omega
      · rw [q]; show (N : Nat) + 1 < _; omega
      · rw [q]; exact hLs
    -- what follows behind a pair
    have key : ∀ (u u2 : Value) (h' : Heap) (tk' : Nat), P1 i u → P2 i u2 → (∃ T f oT, IsZipHeld h' (N + 4) (N + 2) (N + 3) T f ∧ h'.get? T = some oT ∧ N + 4 < T ∧ T ≠ L) → (∃ x y, IsTupOf2 h' (N + 3) x y) → S1 (i + 1) h' → S2 (i + 1) h' → IsTupOf2 h' s.heap.objs.size u u2 →
        (∀ b o, b ≠ N + 4 → b ≠ N + 3 → b ≠ N → b ≠ N + 1 → s.heap.get? b = some o → h'.get? b = some o) →
        codeAny (model X.prog X.w) A (.builtin "list.extend.loop" ⟨[.ref L, .ref (N + 4), res], []⟩) R { s with heap := h'.update L (Obj.mapSeq (·.push (.ref s.heap.objs.size))), toks := tk' } := fun u u2 h' tk' y1 y2 hz' hTO' d1 d2 hT hk' => by
      obtain ⟨x, hx', ru⟩ := p1 _ _ y1
      obtain ⟨y, hy', ru2⟩ := p2 _ _ y2
      have hS' : h'.get? L = some { cls := .type "list", dict := none, data := .seq acc.toArray c, slots := #[] } := hk' L _ (nL 4 (by omega)).symm (nL 3 (by omega)).symm (nL 0 (by omega)).symm (nL 1 (by omega)).symm hS
      have oth : ∀ b o, b ≠ L → h'.get? b = some o → (h'.update L (Obj.mapSeq (·.push (.ref s.heap.objs.size)))).get? b = some o := fun b o hb e => (Heap.get?_update_other _ _ (Ne.symm hb)).trans e
      have nTL : s.heap.objs.size ≠ L := Nat.ne_of_gt hLs
      have hT2 := oth _ _ nTL hT
      have new : ObjOk X.prog X.w (upd H s.heap.objs.size (.frz { cls := .type "tuple", data := .seq #[u, u2] } (.tup [x, y]))) (h'.update L (Obj.mapSeq (·.push (.ref s.heap.objs.size)))) s.heap.objs.size (.frz { cls := .type "tuple", data := .seq #[u, u2] } (.tup [x, y])) :=
        ⟨hT2, by show 2 ≤ sizeLine; decide, [u, u2], .cons ru (.cons ru2 .nil), ⟨_, hT2, rfl, _, rfl⟩⟩
      have hn : H s.heap.objs.size = none := I.hok.fresh (Nat.le_refl _)
      have n0 : H0 s.heap.objs.size = none := by
        cases q : H0 s.heap.objs.size with
        | none => rfl
        | some o => rw [ext _ _ q] at hn; cases hn
      have I1 : Inv X pins σ (upd H s.heap.objs.size (.frz { cls := .type "tuple", data := .seq #[u, u2] } (.tup [x, y]))) { s with heap := h'.update L (Obj.mapSeq (·.push (.ref s.heap.objs.size))), toks := tk' } :=
        I.turnedNew (t' := tk') (ch := zch N L) (fun b o hb q => oth b o (fun z => hb (by simp [zch, z])) (hk' b o (fun z => hb (by simp [zch, z])) (fun z => hb (by simp [zch, z])) (fun z => hb (by simp [zch, z])) (fun z => hb (by simp [zch, z])) q)) hf (Nat.le_refl _) new
      have ex1 : Ext H (upd H s.heap.objs.size (.frz { cls := .type "tuple", data := .seq #[u, u2] } (.tup [x, y]))) := fun b o e => by rw [upd_ne (ne_of_none e hn)]; exact e
      obtain ⟨T, f, oT, z1, z2, z3, z4⟩ := hz'
      obtain ⟨xo, yo, hTO'⟩ := hTO'
      refine ih (i + 1) A _ _ (vs ++ [.ref s.heap.objs.size]) (acc ++ [.ref s.heap.objs.size]) (c + 1) hh (by omega) (by omega) I1 (fun b o e => ex1 b o (ext b o e)) ⟨.inr ⟨T, f, oT, oth _ _ (nL 4 (by omega)) z1, oth _ _ z4 z2, z3, z4⟩, oth _ _ (nL 2 (by omega)) (hk' _ _ (show (N + 2 : Nat) ≠ N + 4 by omega) (show (N + 2 : Nat) ≠ N + 3 by omega) (show (N + 2 : Nat) ≠ N by omega) (show (N + 2 : Nat) ≠ N + 1 by omega) hTI), ⟨xo, yo, oth _ _ (nL 3 (by omega)) hTO'⟩,
          (q1 _ _ d1).keep fun o q => oth _ _ (nL 0 (by omega)) q, (q2 _ _ d2).keep fun o q => oth _ _ (nL 1 (by omega)) q⟩
        (fun b hb => ?_) ?_ ?_ ?_ (by rw [List.length_append, lv]; rfl) (fun j v hj => ?_) fun H' s' vs' acc' c' J e3 g1 g2 g3 e4 e5 e6 e7 => hR H' s' vs' acc' c' J e3 g1 g2 g3 e4 e5 e6 e7
      · obtain ⟨f1, f2⟩ := hf b hb
        exact ⟨by rw [upd_ne (Nat.ne_of_lt (lt0 b hb))]; exact f1, f2⟩
      · exact Heap.lt_size (Heap.get?_update_self _ hS' rfl)
      · rw [Heap.get?_update_self _ hS' rfl]
        simp [Obj.mapSeq]
      · exact rv.append (.cons rfl .nil)
      · by_cases hjl : j < vs.length
        · rw [List.getElem?_append_left hjl] at hj
          obtain ⟨T', o', x', y', r1, r2, r0, r3, r4⟩ := pr j v hj
          exact ⟨T', o', x', y', r1, r2, r0, ex1 _ _ r3, r4⟩
        · rw [List.getElem?_append_right (by omega)] at hj
          have hj0 : j = vs.length := by
            have := (List.getElem?_eq_some_iff.mp hj).1
            simp at this
            omega
          subst hj0
          rw [Nat.sub_self] at hj
          cases hj
          rw [lv]
          exact ⟨_, _, x, y, rfl, rfl, n0, upd_same, hx', hy'⟩
    refine codeAny_builtin F.entry_extend_loop ?_
    rw [Around.under_plainId F.plain_extend_loop _]
    show wpAny _ A.in1 (pyNext (.ref (N + 4)) >>= _) _ _ s
    refine wpAny_bind ?_
    have big : ∀ (h' : Heap) (tk' : Nat) (u u2 : Value), P1 i u → P2 i u2 → (∃ T f oT, IsZipHeld h' (N + 4) (N + 2) (N + 3) T f ∧ h'.get? T = some oT ∧ N + 4 < T ∧ T ≠ L) → (∃ x y, IsTupOf2 h' (N + 3) x y) → S1 (i + 1) h' → S2 (i + 1) h' → IsTupOf2 h' s.heap.objs.size u u2 →
        (∀ b o, b ≠ N + 4 → b ≠ N + 3 → b ≠ N → b ≠ N + 1 → s.heap.get? b = some o → h'.get? b = some o) → h'.get? L = some { cls := .type "list", dict := none, data := .seq acc.toArray c, slots := #[] } := fun h' tk' u u2 _ _ _ _ _ _ _ hk' => hk' L _ (nL 4 (by omega)).symm (nL 3 (by omega)).symm (nL 0 (by omega)).symm (nL 1 (by omega)).symm hS
    have lacc : acc.toArray.size + 1 ≤ sizeLine := by rw [List.size_toArray, ← rv.length, lv]; omega
    rcases hzip with hzip | ⟨T, f, oT, hzip, hT, lT, nT⟩
    · refine wpAny_pyNext_zipD2_item S D1 D2 hzip hTI hTO st1 st2 (by rw [e1]; omega) (by rw [e2]; omega) fun u u2 h' tk' y1 y2 z' TO' d1 d2 hT hsz hk' => ?_
      have K1 := key u u2 h' tk' y1 y2 ⟨_, false, _, z', hT, hzl, Nat.ne_of_gt hLs⟩ ⟨_, _, TO'⟩ d1 d2 hT fun b o b1 b2 b3 b4 e => hk' b o b1 b2 b3 b4 e
      show wpAny _ A.in1 (updateSeq L (·.push (.ref s.heap.objs.size)) >>= _) _ _ _
      refine wpAny_bind (wpAny_updateSeq (hk' L _ (nL 4 (by omega)).symm (nL 3 (by omega)).symm (nL 0 (by omega)).symm (nL 1 (by omega)).symm hS) rfl (wpAny_pure ⟨plainId_quiet F.plain_extend_loop _, K1⟩) ?_ ?_)
      · exact Nat.le_of_succ_le lacc
      · show (acc.toArray.push _).size ≤ sizeLine + 1
        rw [Array.size_push]
        omega
    · refine next_held S D1 D2 hzip hT hTI st1 st2 (by rw [e1]; omega) (by rw [e2]; omega) fun u u2 h' tk' y1 y2 z' d1 d2 hT' hk' => ?_
      have K1 := key u u2 h' tk' y1 y2 ⟨T, true, oT, z', hk' T _ (Nat.ne_of_gt lT) (Nat.ne_of_gt (Nat.lt_of_le_of_lt (show N ≤ N + 4 by omega) lT)) (Nat.ne_of_gt (Nat.lt_of_le_of_lt (show N + 1 ≤ N + 4 by omega) lT)) hT, lT, nT⟩ ⟨x0, y0, hk' _ _ (show (N + 3 : Nat) ≠ N + 4 by omega) (show (N + 3 : Nat) ≠ N by omega) (show (N + 3 : Nat) ≠ N + 1 by omega) hTO⟩ d1 d2 hT' fun b o b1 b2 b3 b4 e => hk' b o b1 b3 b4 e
      show wpAny _ A.in1 (updateSeq L (·.push (.ref s.heap.objs.size)) >>= _) _ _ _
      refine wpAny_bind (wpAny_updateSeq (hk' L _ (nL 4 (by omega)).symm (nL 0 (by omega)).symm (nL 1 (by omega)).symm hS) rfl (wpAny_pure ⟨plainId_quiet F.plain_extend_loop _, K1⟩) ?_ ?_)
      · exact Nat.le_of_succ_le lacc
      · show (acc.toArray.push _).size ≤ sizeLine + 1
        rw [Array.size_push]
        omega
end
end DL
end
section
set_option maxRecDepth 100000
set_option maxHeartbeats 1000000
/-! DL29: tuple(zip(a, b)) -/
namespace DL
open PySem PySem.Spec L2
open PyProof.Rows hiding St

section
variable {X : Cx} {A : Around} {E : Value → Shared → Prop} {pins : List (Addr × Obj)} {σ : St} {k1 k2 : Sk} {N : Nat} {xs ys : List V} {s : Shared} {H : Hp}
/-- what stands when the pairs are gathered -/
abbrev Gath (X : Cx) (pins : List (Addr × Obj)) (σ : St) (xs ys : List V) (H : Hp) (s : Shared) (its : List Value) (s' : Shared) : Prop := ∃ H' vs', Inv X pins σ H' s' ∧ Ext H H' ∧ Vals vs' its ∧ vs'.length = min xs.length ys.length ∧ Pr H H' xs ys vs'
theorem collect_zip {Q : List Value → Shared → Prop} (hh : A.handled = none) (a1 : ∀ b, k1.ad b → b < N) (a2 : ∀ b, k2.ad b → b < N) (hN : N + 5 ≤ s.heap.objs.size) (hx : ∀ H', Ext H H' → SkAt X.K H' k1 xs) (hy : ∀ H', Ext H H' → SkAt X.K H' k2 ys) (hz : min xs.length ys.length ≤ sizeLine)
    (I : Inv X pins σ H s) (z : IsZip s.heap (N + 4) (N + 2) (N + 3) .none) (hTI : IsTupOf2 s.heap (N + 2) (.ref N) (.ref (N + 1))) (hTO : ∃ x y, IsTupOf2 s.heap (N + 3) x y) (h1 : SkIt k1 N 0 s.heap) (h2 : SkIt k2 (N + 1) 0 s.heap)
    (hf : ∀ b ∈ [N + 4, N + 2, N + 3, N, N + 1], FpOk X pins H b) (hQ : ∀ its s', Gath X pins σ xs ys H s its s' → Q its s') : wpAny (model X.prog X.w) A (collect (.ref (N + 4))) Q E s := by
  have lt0 : ∀ j, j < 5 → N + j < s.heap.objs.size := fun j hj => by
    have hN' : (N : Nat) + 5 ≤ s.heap.objs.size := hN
    omega
  have nL : ∀ j, j < 5 → N + j ≠ s.heap.objs.size := fun j hj => Nat.ne_of_lt (lt0 j hj)
  unfold collect
  refine wpAny_bind (wpAny_runValue (codeAny_builtin F.entry_proto_collect ?_))
  rw [Around.under_plainId F.plain_proto_collect _]
  show wpAny _ A.in1 (newList [] >>= fun l => again (.builtin "list.__iadd__" ⟨[l, .ref (N + 4)], []⟩)) _ _ s
  refine wpAny_bind (wpAny_newObj_type ?_)
  refine wpAny_pure ⟨plainId_quiet F.plain_list_iadd _, codeAny_builtin F.entry_list_iadd ?_⟩
  rw [Around.under_plainId F.plain_list_iadd _]
  show wpAny _ A.in1 (Builtin.List.listExtendWith (.ref s.heap.objs.size) (.ref (N + 4)) (.ref s.heap.objs.size)) _ _ _
  have z1 : IsZip (s.heap.push { cls := .type "list", data := .seq ([] : List Value).toArray }) (N + 4) (N + 2) (N + 3) .none := Heap.get?_push_of_some _ z
  have hT : ({ s with heap := s.heap.push { cls := .type "list", data := .seq ([] : List Value).toArray } } : Shared).TypeIs (.ref (N + 4)) "zip" := ⟨_, z1, rfl⟩
  unfold Builtin.List.listExtendWith
  refine wpAny_bind (wpAny_typeOf hT ?_)
  have e1 : Builtin.List.listSameRef (.ref s.heap.objs.size) (.ref (N + 4)) = false := by
    have := (nL 4 (by omega)).symm
    simp [Builtin.List.listSameRef, this]
  have e2 : (Value.type "zip" == Value.type "list") = false := by decide
  have e3 : (Value.type "zip" == Value.type "tuple") = false := by decide
  simp only [e1, e2, e3, Bool.or_false, Bool.false_eq_true, if_false]
  refine wpAny_bind (wpAny_pyIter_zip z1 ?_)
  refine wpAny_bind (wpAny_holding ?_)
  unfold Builtin.List.listLengthHint
  refine wpAny_bind (wpAny_specialOf hT nolen_zip ?_)
  show wpAny _ A.in1 (specialOf (Value.ref (N + 4)) (Str.ofString "__length_hint__") >>= _) _ _ _
  refine wpAny_bind (wpAny_specialOf hT nohint_zip ?_)
  refine wpAny_pure ?_
  show wpAny _ A.in1 (rule "list.extend.makes-room" >>= fun _ => Builtin.List.listTouch (.ref s.heap.objs.size) >>= fun _ =>
    again (.builtin "list.extend.loop" ⟨[.ref s.heap.objs.size, .ref (N + 4), .ref s.heap.objs.size], []⟩)) _ _ _
  refine wpAny_bind (wpAny_rule ?_)
  have hS1 : (s.heap.push { cls := .type "list", data := .seq ([] : List Value).toArray }).get? s.heap.objs.size = some { cls := .type "list", data := .seq ([] : List Value).toArray } := Heap.get?_push_size _ rfl
  refine wpAny_bind ?_
  show wpAny _ A.in1 (updateSeq s.heap.objs.size (·.push .none) >>= fun _ => updateSeq s.heap.objs.size (·.pop)) _ _ _
  refine wpAny_bind (wpAny_updateSeq hS1 rfl ?_)
  have hS2 := Heap.get?_update_self (Obj.mapSeq (·.push Value.none)) hS1 rfl
  refine wpAny_updateSeq hS2 rfl ?_
  have hS3 := Heap.get?_update_self (Obj.mapSeq (·.pop)) hS2 rfl
  generalize hg : ((s.heap.push { cls := .type "list", data := .seq ([] : List Value).toArray }).update s.heap.objs.size (Obj.mapSeq (·.push Value.none))).update s.heap.objs.size (Obj.mapSeq (·.pop)) = g3 at hS3
  have oth : ∀ b o, b ≠ s.heap.objs.size → s.heap.get? b = some o → g3.get? b = some o := fun b o hb e => by
    rw [← hg]
    exact (Heap.get?_update_other _ _ (Ne.symm hb)).trans ((Heap.get?_update_other _ _ (Ne.symm hb)).trans (Heap.get?_push_of_some _ e))
  have kp : ∀ b o, s.heap.get? b = some o → g3.get? b = some o := fun b o e => oth b o (Nat.ne_of_lt (Heap.lt_size e)) e
  have I3 : Inv X pins σ H { s with heap := g3 } := I.kept (t' := s.toks) kp
  obtain ⟨x0, y0, hTO⟩ := hTO
  refine wpAny_pure ⟨plainId_quiet F.plain_extend_loop _, zip_gather (res := .ref s.heap.objs.size) (L := s.heap.objs.size) a1 a2 hN hx hy hz _ 0 A _ H [] [] _ hh rfl (Nat.zero_le _) I3 (fun b o e => e)
    ⟨.inl (kp _ _ z), kp _ _ hTI, ⟨x0, y0, kp _ _ hTO⟩, h1.keep fun o q => kp _ _ q, h2.keep fun o q => kp _ _ q⟩ (fun b hb => ?_) (Heap.lt_size hS3) hS3 .nil rfl (fun j v hj => by simp at hj) fun H' s' vs' acc' c' J ex g1 g2 g3' hL rv lv pr => ?_⟩
  · rcases List.mem_append.mp (show b ∈ [N + 4, N + 2, N + 3, N, N + 1] ++ [s.heap.objs.size] from hb) with q | q
    · exact hf b q
    · rw [List.mem_singleton.mp q]
      exact I.fpOk (Nat.le_refl _) (I.hok.fresh (Nat.le_refl _))
  · show wpAny _ A (load s.heap.objs.size >>= _) _ _ s'
    refine wpAny_bind (wpAny_load hL ?_)
    refine wpAny_pure ?_
    show Q acc'.toArray.toList s'
    exact hQ _ _ ⟨H', vs', J, ex, by simpa using rv, lv, pr⟩
end
end DL
end
section
set_option maxRecDepth 100000
set_option maxHeartbeats 1000000
/-! DL30: tuple(zip(a, b)), the rule -/
namespace DL
open PySem PySem.Spec L2
open PyProof.Rows hiding St

section
variable {X : Cx} {A : Around} {E : Value → Shared → Prop} {pins : List (Addr × Obj)} {σ : St} {k1 k2 : Sk} {N : Nat} {xs ys : List V} {s : Shared} {H : Hp}
theorem code_tupzip {Q₁ : Value → Shared → Prop} (hh : A.handled = none) (a1 : ∀ b, k1.ad b → b < N) (a2 : ∀ b, k2.ad b → b < N) (hN : N + 5 ≤ s.heap.objs.size) (hx : ∀ H', Ext H H' → SkAt X.K H' k1 xs) (hy : ∀ H', Ext H H' → SkAt X.K H' k2 ys) (hz : min xs.length ys.length ≤ sizeLine)
    (I : Inv X pins σ H s) (z : IsZip s.heap (N + 4) (N + 2) (N + 3) .none) (hTI : IsTupOf2 s.heap (N + 2) (.ref N) (.ref (N + 1))) (hTO : ∃ x y, IsTupOf2 s.heap (N + 3) x y) (h1 : SkIt k1 N 0 s.heap) (h2 : SkIt k2 (N + 1) 0 s.heap)
    (hf : ∀ b ∈ [N + 4, N + 2, N + 3, N, N + 1], FpOk X pins H b) (hQ : ∀ its s', Gath X pins σ xs ys H s its s' → Q₁ (.ref s'.heap.objs.size) { s' with heap := s'.heap.push { cls := .type "tuple", data := .seq its.toArray } }) :
    codeAny (model X.prog X.w) A (.call (.builtin "tuple.__new__") ⟨[.type "tuple", .ref (N + 4)], []⟩) (wants Q₁ E) s := by
  refine codeAny_of_tree ?_
  show wpAny _ A.in1 (do checkBuiltinCall "tuple.__new__" ⟨[.type "tuple", .ref (N + 4)], []⟩; again (.builtin "tuple.__new__" ⟨[.type "tuple", .ref (N + 4)], []⟩)) _ _ s
  refine wpAny_bind (wpAny_of_eq (F.newCall_tuple_1 _) (wpAny_pure ⟨plainId_quiet F.plain_tuple_new _, codeAny_builtin F.entry_tuple_new ?_⟩))
  rw [Around.under_plainId F.plain_tuple_new _]
  have hsub := sub_tuple_self
  have hinit := init_tuple_lookup
  have hmh := madeHere_tuple
  have hTI' : s.TypeIs (.ref (N + 4)) "zip" := ⟨_, z, rfl⟩
  have hh1 : A.in1.handled = none := hh
  wp_walk using wpAny_typeOf hTI', collect_zip (A := A.in1) hh1 a1 a2 hN hx hy hz I z hTI hTO h1 h2 hf
  intro its s' g
  show wpAny _ _ (Builtin.Tuple.tupleExact its.toArray >>= fun v => ret v) _ _ _
  unfold Builtin.Tuple.tupleExact
  obtain ⟨H', vs', J, ex, rv, lv, pr⟩ := id g
  refine wpAny_bind (wpAny_newObj_type ?_ (by show its.toArray.size ≤ sizeLine; rw [List.size_toArray, ← rv.length, lv]; exact hz))
  exact wpAny_pure (hQ its s' g)
theorem call_tupzip {Q : Value → Shared → Prop} (hh : A.handled = none) (a1 : ∀ b, k1.ad b → b < N) (a2 : ∀ b, k2.ad b → b < N) (hN : N + 5 ≤ s.heap.objs.size) (hx : ∀ H', Ext H H' → SkAt X.K H' k1 xs) (hy : ∀ H', Ext H H' → SkAt X.K H' k2 ys) (hz : min xs.length ys.length ≤ sizeLine)
    (I : Inv X pins σ H s) (z : IsZip s.heap (N + 4) (N + 2) (N + 3) .none) (hTI : IsTupOf2 s.heap (N + 2) (.ref N) (.ref (N + 1))) (hTO : ∃ x y, IsTupOf2 s.heap (N + 3) x y) (h1 : SkIt k1 N 0 s.heap) (h2 : SkIt k2 (N + 1) 0 s.heap)
    (hf : ∀ b ∈ [N + 4, N + 2, N + 3, N, N + 1], FpOk X pins H b) (hQ : ∀ its s', Gath X pins σ xs ys H s its s' → Q (.ref s'.heap.objs.size) { s' with heap := s'.heap.push { cls := .type "tuple", data := .seq its.toArray } }) :
    wpAny (model X.prog X.w) A (call (.type "tuple") [.ref (N + 4)]) Q E s := by
  refine callType_codes (Q₁ := fun obj s₁ => s₁.TypeIs obj "tuple" ∧ Q obj s₁) F.called_tuple (F.typeCall_tuple_1 _) F.entry_object_init
    (code_tupzip (A := A.in1) hh a1 a2 hN hx hy hz I z hTI hTO h1 h2 hf fun its s' g => ⟨⟨_, Heap.get?_push_size _ rfl, rfl⟩, hQ its s' g⟩) fun obj s₁ h₁ => ?_
  exact ⟨h₁.1, F.args_object_init_2 obj _, object_init_meets F.called_tuple.init.lookup F.called_tuple.made (by decide) X.prog X.w A.in1 _ s₁ ⟨h₁.1, rfl, h₁.2⟩⟩
end
def tTupZip (K : PySem.W.Frag) (ta : TA) : TE := fun σ H Q => ta σ H fun vs H1 => ∃ k1 k2 xs ys, vs = [Sk.v k1, Sk.v k2] ∧ (∀ H', Ext H1 H' → SkAt K H' k1 xs) ∧ (∀ H', Ext H1 H' → SkAt K H' k2 ys) ∧ min xs.length ys.length ≤ sizeLine ∧
  ∀ H' vs' p o, Ext H1 H' → vs'.length = min xs.length ys.length → Pr H1 H' xs ys vs' → Obj.dict o = none → H' p = none → Q (.ref p) (upd H' p (.frz o (.tup vs')))
section
variable {X : Cx} {e e2 : Expr} {ta : TA} {p p2 pos pos2 : Pos}
theorem pe_tupzip (hc : X.calm = true) (hg : Gl X "zip") (hm : X.mg "zip" = none) (hgt : Gl X "tuple") (hmt : X.mg "tuple" = none) (ha : PA X [e, e2] ta)
    (hs : starEach [e, e2] X.env = (false, eval e X.env) :: starEach [e2] X.env := by rfl) (hpl : (backTo pos (starEach [e2] X.env)).any (·.1) = false := by rfl)
    (na : starEach [.Call (.Name "zip" p) [e, e2] [] pos] X.env = (false, eval (.Call (.Name "zip" p) [e, e2] [] pos) X.env) :: starEach [] X.env := by rfl) :
    PE X (.Call (.Name "tuple" p2) [.Call (.Name "zip" p) [e, e2] [] pos] [] pos2) (tTupZip X.K ta) := by
  refine ⟨fun pins s σ H Q I h => ?_⟩
  refine Call_ (ld_blt I hgt hmt boot_tuple (PyProof.Rows.callWith_type1 (args_cons ?_ na) na))
  refine Call_ (ld_blt I hg hm PyProof.Rows.boot_zip (PyProof.Rows.callWith_type1 (thn (ha.run pos pins s σ H _ I h) fun us s1 ⟨vs, H1, I1, r1, k1, k2, xs, ys, ex, hx, hy, hz, q⟩ => ?_) hs hpl))
  subst ex
  obtain ⟨u1, u2, rfl, ru1, ru2⟩ := r1.two
  obtain ⟨o1, G1, B1, g1, t1, a1⟩ := sk_begins I1 (hx H1 fun _ _ e => e) ru1
  obtain ⟨o2, G2, B2, g2, t2, a2⟩ := sk_begins I1 (hy H1 fun _ _ e => e) ru2
  refine zip_begins2 B1 B2 g1 g2 fun h' hz' hTI hTO ho1 ho2 hsz hk => args_nil ?_
  have I2 : Inv X pins σ H1 { s1 with heap := h' } := I1.kept (t' := s1.toks) hk
  refine call_tupzip (N := s1.heap.objs.size) (I1.ok.hd hc) a1 a2 (by show _ ≤ h'.objs.size; rw [hsz]; exact Nat.le_refl _) hx hy hz I2 hz' hTI ⟨_, _, hTO⟩ (t1 _ _ ho1) (t2 _ _ ho2) (fun c hcm => ?_) fun its s' ⟨H', vs', J, ext, rv, lv, pr⟩ => ?_
  · have e' : c = s1.heap.objs.size + 4 ∨ c = s1.heap.objs.size + 2 ∨ c = s1.heap.objs.size + 3 ∨ c = s1.heap.objs.size ∨ c = s1.heap.objs.size + 1 := by simpa using hcm
    have hle : s1.heap.objs.size ≤ c := by
      rcases e' with z | z | z | z | z
      · rw [z]; exact Nat.le_add_right _ _
      · rw [z]; exact Nat.le_add_right _ _
      · rw [z]; exact Nat.le_add_right _ _
      · rw [z]; exact Nat.le_refl _
      · rw [z]; exact Nat.le_add_right _ _
    exact I1.fpOk hle (I1.hok.fresh hle)
  · exact laid_tup J rv (by rw [lv]; exact hz) fun p o hd hn => q H' vs' p o ext lv pr hd hn
end
section
variable {B : Bx} {e e2 : Expr} {p p2 pos pos2 : Pos} {f : M (List D)}
def dTupZip (f : M (List D)) : M Ent := fun env => match f env with
  | .ok [a, b] env' => (match seqD a, seqD b with
    | some as, some bs => .ok (.fz (.tuple (pairs as bs))) env'
    | _, _ => .bad)
  | .ok _ _ => .bad
  | .bad => .bad
  | .ex c d env' => .ex c d env'
theorem rep_pairs {K : PySem.W.Frag} {W : Addr → Prop} {H0 H : Hp} {xs ys : List V} {as bs : List D} {vs : List V} (ra : RepL K W H as xs) (rb : RepL K W H bs ys) (lv : vs.length = min xs.length ys.length) (pr : Pr H0 H xs ys vs) (nw : ∀ T, H0 T = none → ¬ W T) : RepL K W H (pairs as bs) vs := by
  have hl : vs.length = (pairs as bs).length := by rw [lv, pairs_length, ra.length, rb.length]
  have go : ∀ (ds : List D) (us : List V), us.length = ds.length → (∀ (j : Nat) d u, ds[j]? = some d → us[j]? = some u → Rep K W H d u) → RepL K W H ds us := by
    intro ds
    induction ds with
    | nil =>
      intro us h _
      cases us with
      | nil => rfl
      | cons _ _ => simp at h
    | cons d ds ih =>
      intro us h hr
      cases us with
      | nil => simp at h
      | cons u us => exact ⟨u, us, rfl, hr 0 d u rfl rfl, ih us (by simpa using h) fun j d' u' e1 e2 => hr (j + 1) d' u' (by simpa using e1) (by simpa using e2)⟩
  refine go _ _ hl fun j d u e1 e2 => ?_
  obtain ⟨da, db, f1, f2, rfl⟩ := pairs_at e1
  obtain ⟨T, o, x, y, rfl, hd, h0, hT, f3, f4⟩ := pr j u e2
  obtain ⟨v1, f5, r1⟩ := ra.get f1
  obtain ⟨v2, f6, r2⟩ := rb.get f2
  rw [f3] at f5
  rw [f4] at f6
  cases f5
  cases f6
  exact rep_pair hd (nw T h0) hT r1 r2
theorem eo_tupzip {k : Nat} (G : Gd B k) (h : EvA B [e, e2] f) (hg : Gl B.X "zip") (hm : B.X.mg "zip" = none) (hgt : Gl B.X "tuple") (hmt : B.X.mg "tuple" = none)
    (hs : starEach [e, e2] B.X.env = (false, eval e B.X.env) :: starEach [e2] B.X.env := by rfl) (hpl : (backTo pos (starEach [e2] B.X.env)).any (·.1) = false := by rfl)
    (na : starEach [.Call (.Name "zip" p) [e, e2] [] pos] B.X.env = (false, eval (.Call (.Name "zip" p) [e, e2] [] pos) B.X.env) :: starEach [] B.X.env := by rfl) :
    EvO B (.Call (.Name "tuple" p2) [.Call (.Name "zip" p) [e, e2] [] pos] [] pos2) (dTupZip f) := by
  obtain ⟨t, pa, h⟩ := h
  refine ⟨_, pe_tupzip G.calm hg hm hgt hmt pa hs hpl na, fun c W H σ env Q hc s hq => h c W H σ env _ hc s ?_⟩
  unfold dTupZip at hq
  cases q : f env with
  | bad => rw [q] at hq; exact hq
  | ex k d env' => rw [q] at hq; exact hq
  | ok ds env' =>
    rw [q] at hq
    intro vs W' H' g s' r
    match ds, hq, r with
    | [a, b], hq, r =>
      dsimp only at hq
      obtain ⟨v1, r0, rfl, ra, v2, r2, rfl, rb, e3⟩ := r
      have e3 : r2 = [] := e3
      subst e3
      cases q1 : seqD a with
      | none => rw [q1] at hq; exact hq.elim
      | some as =>
        cases q2 : seqD b with
        | none => rw [q1, q2] at hq; exact hq.elim
        | some bs =>
          rw [q1, q2] at hq
          obtain ⟨k1, vs1, rfl, m1, l1, z1⟩ := sk_of ra q1
          obtain ⟨k2, vs2, rfl, m2, l2, z2⟩ := sk_of rb q2
          have gx : ∀ H2, Ext H' H2 → Go W' H' W' H2 := fun H2 ex => ⟨fun b o e _ => ex b o e, fun b w => .inl w⟩
          refine ⟨k1, k2, vs1, vs2, rfl, fun H2 ex => m1 _ _ (gx H2 ex), fun H2 ex => m2 _ _ (gx H2 ex), by rw [l1.length]; omega, fun H2 vs' p o ex lv pr hd hn => ?_⟩
          have s2 : SR B.X.K c W' H2 σ env' := s'.go (gx H2 ex) (fun _ w => w) (fun a w => by
            obtain ⟨o', e⟩ := s'.tr a w
            rw [e]
            exact ex a o' e) fun a w => by
            obtain ⟨o', e⟩ := s'.tr a w
            exact ⟨o', ex a o' e⟩
          have rp := rep_pairs (l1.go (gx H2 ex)) (l2.go (gx H2 ex)) lv pr fun T h0 w => by
            obtain ⟨o', e⟩ := s'.tr T w
            rw [h0] at e
            cases e
          refine new_tup s2 rp (by rw [pairs_length]; omega) (fun v W3 H3 g3 s3 r3 => ?_) p o hd hn
          exact hq v W3 H3 (g.trans ((gx H2 ex).trans g3)) s3 r3
end
end DL
end
section
set_option maxRecDepth 100000
set_option maxHeartbeats 1000000
/-! DL31: plain facts of the denotations -/
namespace DL
open PySem PySem.Spec L2
open PyProof.Rows hiding St
theorem dlt_int (a b : Int) : PySem.W.dataLt (.int a) (.int b) = decide (a < b) := by
  unfold PySem.W.dataLt
  simp [PySem.W.keyToks, PyProof.Rows.lexLt]
  rfl
theorem okLt_int (a b : Int) : okLt (.int a) (.int b) = true := by rfl
theorem ltD_int (a b : Int) : ltD (.int a) (.int b) = some (.fz (.bool (decide (a < b)))) := by
  unfold ltD; rw [okLt_int, dlt_int]; rfl
theorem gtD_int (a b : Int) : gtD (.int a) (.int b) = some (.fz (.bool (decide (b < a)))) := by
  unfold gtD; rw [okLt_int, dlt_int]; rfl
theorem leD_int (a b : Int) : leD (.int a) (.int b) = some (.fz (.bool (!decide (b < a)))) := by
  unfold leD; rw [okLt_int, dlt_int]; rfl
theorem geD_int (a b : Int) : geD (.int a) (.int b) = some (.fz (.bool (!decide (a < b)))) := by
  unfold geD; rw [okLt_int, dlt_int]; rfl
/-- a loop that keeps a promise counted by its turns -/
theorem forL_inv {h : D → M Unit} {body : M Fl} (P : Nat → En → Prop) : ∀ (ds : List D) (i : Nat) (env : En), (∀ d ∈ ds, ∀ i env, P i env → ∃ env1 env2, h d env = .ok () env1 ∧ body env1 = .ok .nx env2 ∧ P (i + 1) env2) → P i env → ∃ env', forL h body ds env = .ok .nx env' ∧ P (i + ds.length) env'
  | [], i, env, _, p => ⟨env, rfl, p⟩
  | d :: ds, i, env, hs, p => by
    obtain ⟨e1, e2, h1, h2, p2⟩ := hs d List.mem_cons_self i env p
    obtain ⟨e3, h3, p3⟩ := forL_inv P ds (i + 1) e2 (fun x hx => hs x (List.mem_cons_of_mem _ hx)) p2
    refine ⟨e3, ?_, by rw [List.length_cons, show i + (ds.length + 1) = i + 1 + ds.length by omega]; exact p3⟩
    show (match h d env with | .ok _ env1 => _ | .bad => _ | .ex c d env2 => _) = _
    rw [h1]
    show (match body e1 with | .ok .nx env2 => _ | .ok .ct env2 => _ | .ok .bk env2 => _ | .ok (.rt x) env2 => _ | .bad => _ | .ex c d env2 => _) = _
    rw [h2]
    exact h3
end DL
end
section
set_option maxRecDepth 100000
set_option maxHeartbeats 1000000
/-! DL32: steps of the denotations -/
namespace DL
open PySem PySem.Spec L2
open PyProof.Rows hiding St
section
variable {env e e1 e2 : En} {x y : Ent} {d d1 d2 : D} {b : Bool} {i n : Nat}
theorem z_nx {f g : M Fl} {r : R En Fl} (h : f env = .ok .nx e) (h2 : g e = r) : lCons f g env = r := by unfold lCons; rw [h]; exact h2
theorem z_rt {f g : M Fl} (h : f env = .ok (.rt x) e) : lCons f g env = .ok (.rt x) e := by unfold lCons; rw [h]
theorem z_ift {α : Type} {t : M Bool} {f g : M α} {r : R En α} (h : t env = .ok true e) (h2 : f e = r) : dIf t f g env = r := by unfold dIf; rw [h]; exact h2
theorem z_iff {α : Type} {t : M Bool} {f g : M α} {r : R En α} (h : t env = .ok false e) (h2 : g e = r) : dIf t f g env = r := by unfold dIf; rw [h]; exact h2
theorem z_lift {t : M Bool} {f g : M Fl} {r : R En Fl} (h : t env = .ok true e) (h2 : f e = r) : lIf t f g env = r := z_ift h h2
theorem z_liff {t : M Bool} {f g : M Fl} {r : R En Fl} (h : t env = .ok false e) (h2 : g e = r) : lIf t f g env = r := z_iff h h2
theorem z_set {f : M Ent} (h : f env = .ok x e) (hi : Nat.ble (i + 1) e.length = true) : lSet i f env = .ok .nx (e.set i x) := by unfold lSet; rw [h]; exact if_pos (Nat.le_of_ble_eq_true hi)
theorem z_ret {f : M Ent} (h : f env = .ok x e) : lRet f env = .ok (.rt x) e := by unfold lRet; rw [h]
theorem z_asg {f : M D} {h : D → M Unit} (h1 : f env = .ok d e) (h2 : h d e = .ok () e2) : lAsg f h env = .ok .nx e2 := by unfold lAsg; rw [h1]; show (match h d e with | .ok _ env2 => _ | .bad => _ | .ex c d env' => _) = _; rw [h2]
theorem z_bin {F : D → D → Option Ent} {f g : M Pl} {p q : Pl} (hf : f env = .ok p e1) (hg : g e1 = .ok q e2) (h1 : p.get e2 = some d1) (h2 : q.get e2 = some d2) (hF : F d1 d2 = some x) : dBin F f g env = .ok x e2 := by
  unfold dBin M.two M.bind
  simp only [hf, hg, h1, h2, hF]
theorem z_F {f : M Ent} (h : f env = .ok (.fz d) e) : mF f env = .ok d e := by unfold mF; rw [h]
theorem z_Fo {f : M Ent} (h : f env = .ok (.ow d) e) : mF f env = .ok d e := by unfold mF; rw [h]
theorem z_B {f : M D} (h : f env = .ok d e) : mB f env = .ok (.v d) e := by unfold mB; rw [h]
theorem z_O {f : M D} (h : f env = .ok d e) : mO f env = .ok (.fz d) e := by unfold mO; rw [h]
theorem z_T {f : M D} (h : f env = .ok (.bool b) e) : dTest f env = .ok b e := by unfold dTest; rw [h]
theorem z_andt {f g : M Bool} {r : R En Bool} (h : f env = .ok true e) (h2 : g e = r) : dAndT f g env = r := by unfold dAndT; rw [h]; exact h2
theorem z_andf {f g : M Bool} (h : f env = .ok false e) : dAndT f g env = .ok false e := by unfold dAndT; rw [h]
theorem z_p {f : M Pl} {g : M (List Pl)} {p : Pl} {ps : List Pl} (h : f env = .ok p e1) (h2 : g e1 = .ok ps e2) : dConsP f g env = .ok (p :: ps) e2 := by
  unfold dConsP M.bind
  simp only [h, h2, M.pure]
theorem z_c {f : M D} {g : M (List D)} {ds : List D} (h : f env = .ok d e1) (h2 : g e1 = .ok ds e2) : dCons f g env = .ok (d :: ds) e2 := by
  unfold dCons M.bind
  simp only [h, h2, M.pure]
theorem z_tup {f : M (List D)} {ds : List D} (h : f env = .ok ds e) (hf : fits ds.length = true) : dTup f env = .ok (.tuple ds) e := by
  unfold dTup
  rw [h]
  exact if_pos hf
theorem z_blt {F : List D → Option Ent} {f : M (List Pl)} {ps : List Pl} {ds : List D} (h : f env = .ok ps e) (h2 : getAll e ps = some ds) (h3 : F ds = some x) : dCallB F f env = .ok x e := by
  unfold dCallB
  rw [h]
  show (match getAll e ps with | some ds => _ | none => _) = _
  rw [h2]
  show (match F ds with | some e => _ | none => _) = _
  rw [h3]
theorem z_call {io : Option Nat} {fn : DFn} {f : M (List Pl)} {ps : List Pl} {ds : List D} {out : D} (h : f env = .ok ps e) (h2 : callArgs io e 0 ps = some ds) (hn : ds.length = n) (h3 : fn ds = .ok x out) : dCall io n fn f env = .ok x (putOut (ioSlot io ps) out e) := by
  unfold dCall
  rw [h]
  show (match callArgs io e 0 ps with | some ds => _ | none => _) = _
  rw [h2]
  show (if ds.length = n then _ else _) = _
  rw [if_pos hn, h3]
theorem z_run {io : Option Nat} {m : Nat} {g : M Fl} {ds : List D} {o : D} (h : g (initE io 0 ds ++ List.replicate m .no) = .ok (.rt x) e) (ho : outOf io e = some o) : runFn io m g ds = .ok x o := by
  unfold runFn
  rw [h]
  show (match outOf io e with | some o => _ | none => _) = _
  rw [ho]
end
end DL
end
section
set_option maxRecDepth 100000
set_option maxHeartbeats 1000000
/-! DL33: reprs of plain data are texts that may be -/
namespace DL
open PySem PySem.Spec L2
open PyProof.Rows hiding St
abbrev Lo (x : Str) : Prop := ∀ c ∈ x.cps.toList, c < 0x110000
theorem strOk_lo {x : Str} : PyData.strOk x = true ↔ Lo x := by
  unfold PyData.strOk Lo
  rw [← Array.all_toList, List.all_eq_true]
  simp
theorem lo_append {x y : Str} (hx : Lo x) (hy : Lo y) : Lo (x ++ y) := fun c hc => by
  have hc : c ∈ (x.cps ++ y.cps).toList := hc
  rw [Array.toList_append, List.mem_append] at hc
  exact hc.elim (hx c) (hy c)
theorem textFrom_lo : ∀ (ts : List Str) (k : Nat) (acc : Str), Lo acc → (∀ t ∈ ts, Lo t) → Lo (textFrom k acc ts)
  | [], k, acc, h, _ => h
  | t :: r, k, acc, h, ht => by
    unfold textFrom
    refine textFrom_lo r _ _ (lo_append (lo_append h ?_) (ht t List.mem_cons_self)) fun u hu => ht u (List.mem_cons_of_mem _ hu)
    split
    · exact strOk_lo.mp (by decide +kernel)
    · exact strOk_lo.mp (by decide +kernel)
theorem char_lo (c : Char) : c.toNat < 0x110000 := by
  have h := c.valid
  rcases h with h | ⟨_, h⟩
  · show c.val.toNat < _
    omega
  · show c.val.toNat < _
    omega
theorem reprChar_lo {q c : Nat} (hc : c < 0x110000) : ∀ z ∈ Builtin.Str.reprChar q c, z < 0x110000 := by
  intro z hz
  have hex : ∀ w, z ∈ List.replicate (w - ((Nat.toDigits 16 c).map Char.toNat).length) 48 ++ (Nat.toDigits 16 c).map Char.toNat → z < 0x110000 := fun w h => by
    rcases List.mem_append.mp h with h | h
    · rw [List.eq_of_mem_replicate h]; decide
    · obtain ⟨d, _, rfl⟩ := List.mem_map.mp h
      exact char_lo d
  unfold Builtin.Str.reprChar at hz
  dsimp only at hz
  repeat' split at hz
  all_goals first
    | (simp only [List.mem_cons, List.not_mem_nil, or_false] at hz; omega)
    | (rcases List.mem_append.mp hz with h | h
       · simp only [List.mem_cons, List.not_mem_nil, or_false] at h; omega
       · exact hex _ h)
end DL
end
section
set_option maxRecDepth 100000
set_option maxHeartbeats 1000000
/-! DL34: okS (shown d) without running repr -/
namespace DL
open PySem PySem.Spec L2
open PyProof.Rows hiding St
theorem fold_lo (q : Nat) : ∀ (l : List Nat) (acc : Array Nat), (∀ c ∈ acc.toList, c < 0x110000) → (∀ c ∈ l, c < 0x110000) → ∀ c ∈ (l.foldl (fun out c => out ++ (Builtin.Str.reprChar q c).toArray) acc).toList, c < 0x110000
  | [], acc, h, _ => h
  | z :: r, acc, h, hl => by
    rw [List.foldl_cons]
    refine fold_lo q r _ (fun c hc => ?_) fun c hc => hl c (List.mem_cons_of_mem _ hc)
    rw [Array.toList_append, List.mem_append] at hc
    exact hc.elim (h c) fun h2 => reprChar_lo (hl z List.mem_cons_self) c (by simpa using h2)
theorem reprText_lo {x : Str} (h : Lo x) : Lo (reprText x) := by
  have hq : reprQuote x < 0x110000 := by
    unfold reprQuote
    split <;> decide
  intro c hc
  unfold reprText at hc
  have hc : c ∈ ((x.cps.foldl (fun out c => out ++ (Builtin.Str.reprChar (reprQuote x) c).toArray) #[reprQuote x]).push (reprQuote x)).toList := hc
  rw [Array.toList_push, List.mem_append, ← Array.foldl_toList] at hc
  rcases hc with hc | hc
  · exact fold_lo _ _ _ (fun z hz => by simp at hz; omega) h c hc
  · simp at hc; omega
mutual
/-- a bound of a repr's length -/
def rLen : D → Nat
  | .none => 4
  | .bool _ => 5
  | .int i => (PyData.shown (.int i)).length
  | .str x => 10 * x.length + 2
  | .list xs => rLenAll xs + 2
  | .tuple xs => rLenAll xs + 3
  | .dict _ => 0
def rLenAll : List D → Nat
  | [] => 0
  | x :: xs => rLen x + 2 + rLenAll xs
end
mutual
def rLo : D → Bool
  | .none => true
  | .bool _ => true
  | .int i => PyData.strOk (PyData.shown (.int i))
  | .str x => PyData.strOk x
  | .list xs => rLoAll xs
  | .tuple xs => rLoAll xs
  | .dict _ => false
def rLoAll : List D → Bool
  | [] => true
  | x :: xs => rLo x && rLoAll xs
end
theorem join_lo {sep : Str} (hs : Lo sep) : ∀ {ts : List Str}, (∀ t ∈ ts, Lo t) → Lo (Str.join sep ts)
  | [], _ => fun c hc => by
    have hc : c ∈ (Str.empty : Str).cps.toList := hc
    exact (strOk_lo.mp (by decide +kernel) : Lo Str.empty) c hc
  | [x], h => h x List.mem_cons_self
  | x :: y :: r, h => lo_append (lo_append (h x List.mem_cons_self) hs) (join_lo hs fun t ht => h t (List.mem_cons_of_mem _ ht))
mutual
theorem shown_lo : ∀ {d : D}, rLo d = true → Lo (PyData.shown d)
  | .none, _ => strOk_lo.mp (by decide +kernel)
  | .bool true, _ => strOk_lo.mp (by decide +kernel)
  | .bool false, _ => strOk_lo.mp (by decide +kernel)
  | .int i, h => strOk_lo.mp h
  | .str x, h => reprText_lo (strOk_lo.mp h)
  | .list xs, h => lo_append (textFrom_lo _ _ _ (strOk_lo.mp (by decide +kernel)) (shownAll_lo h)) (strOk_lo.mp (by decide +kernel))
  | .tuple xs, h => by
    show Lo (("(" : Str) ++ Str.join ", " (PyData.shownAll xs) ++ (if (PyData.shownAll xs).length == 1 then ",)" else ")" : String))
    refine lo_append (lo_append (strOk_lo.mp (by decide +kernel)) (join_lo (strOk_lo.mp (by decide +kernel)) (shownAll_lo h))) ?_
    split
    · exact strOk_lo.mp (by decide +kernel)
    · exact strOk_lo.mp (by decide +kernel)
theorem shownAll_lo : ∀ {ds : List D}, rLoAll ds = true → ∀ t ∈ PyData.shownAll ds, Lo t
  | [], _, t, ht => nomatch ht
  | d :: ds, h, t, ht => by
    have h : (rLo d && rLoAll ds) = true := h
    rw [Bool.and_eq_true] at h
    rcases List.mem_cons.mp ht with rfl | ht
    · exact shown_lo h.1
    · exact shownAll_lo h.2 t ht
end
end DL
end
section
set_option maxRecDepth 100000
set_option maxHeartbeats 1000000
/-! DL35: a repr's length -/
namespace DL
open PySem PySem.Spec L2
open PyProof.Rows hiding St
theorem la (x y : Str) : (x ++ y).length = x.length + y.length := strLen_append' x y
def sumL : List Str → Nat
  | [] => 0
  | t :: ts => t.length + 2 + sumL ts
theorem textFrom_le : ∀ (ts : List Str) (k : Nat) (acc : Str), (textFrom k acc ts).length ≤ acc.length + sumL ts
  | [], k, acc => Nat.le_refl _
  | t :: r, k, acc => by
    unfold textFrom
    have h := textFrom_le r (k + 1) (acc ++ (if k > 0 then ", " else "" : String) ++ t)
    have e : ((if k > 0 then ", " else "" : String) : Str).length ≤ 2 := by
      split
      · decide +kernel
      · decide +kernel
    rw [la, la] at h
    show _ ≤ acc.length + (t.length + 2 + sumL r)
    omega
theorem join_le : ∀ (ts : List Str), (Str.join ", " ts).length ≤ sumL ts
  | [] => Nat.zero_le _
  | [x] => by
    show x.length ≤ x.length + 2 + 0
    omega
  | x :: y :: r => by
    have h := join_le (y :: r)
    show (x ++ ", " ++ Str.join ", " (y :: r)).length ≤ x.length + 2 + sumL (y :: r)
    have e : ((", " : String) : Str).length = 2 := by decide +kernel
    rw [la, la, e]
    omega
mutual
theorem shown_len : ∀ {d : D}, rLo d = true → (PyData.shown d).length ≤ rLen d
  | .none, _ => by decide +kernel
  | .bool true, _ => by decide +kernel
  | .bool false, _ => by decide +kernel
  | .int i, _ => Nat.le_refl _
  | .str x, h => PySem.StrLaws.reprText_len x fun c hc => Nat.lt_trans (strOk_lo.mp h c hc) (by decide)
  | .list xs, h => by
    have h1 := textFrom_le (PyData.shownAll xs) 0 "["
    have h2 := shownAll_len h
    have e1 : (("[" : String) : Str).length = 1 := by decide +kernel
    have e2 : (("]" : String) : Str).length = 1 := by decide +kernel
    show (textFrom 0 "[" (PyData.shownAll xs) ++ "]").length ≤ rLenAll xs + 2
    rw [la, e2]
    rw [e1] at h1
    omega
  | .tuple xs, h => by
    have h1 := join_le (PyData.shownAll xs)
    have h2 := shownAll_len h
    have e1 : (("(" : String) : Str).length = 1 := by decide +kernel
    have e3 : ((if (PyData.shownAll xs).length == 1 then ",)" else ")" : String) : Str).length ≤ 2 := by
      split
      · decide +kernel
      · decide +kernel
    show (("(" : Str) ++ Str.join ", " (PyData.shownAll xs) ++ (if (PyData.shownAll xs).length == 1 then ",)" else ")" : String)).length ≤ rLenAll xs + 3
    rw [la, la, e1]
    omega
theorem shownAll_len : ∀ {ds : List D}, rLoAll ds = true → sumL (PyData.shownAll ds) ≤ rLenAll ds
  | [], _ => Nat.le_refl _
  | d :: ds, h => by
    have h : (rLo d && rLoAll ds) = true := h
    rw [Bool.and_eq_true] at h
    have h1 := shown_len h.1
    have h2 := shownAll_len h.2
    show (PyData.shown d).length + 2 + sumL (PyData.shownAll ds) ≤ rLen d + 2 + rLenAll ds
    omega
end
theorem okS_shown {d : D} (h : (rLo d && fits (rLen d)) = true) : okS (PyData.shown d) = true := by
  rw [Bool.and_eq_true] at h
  unfold okS
  rw [Bool.and_eq_true]
  refine ⟨?_, strOk_lo.mpr (shown_lo h.1)⟩
  unfold fits
  exact decide_eq_true (Nat.le_trans (shown_len h.1) (fits_ok h.2))
end DL
end
section
set_option maxRecDepth 100000
set_option maxHeartbeats 1000000
/-! DL36: equal data; reprs that need not be run -/
namespace DL
open PySem PySem.Spec L2
open PyProof.Rows hiding St
mutual
def same : D → D → Bool
  | .none, .none => true
  | .bool a, .bool b => a == b
  | .int a, .int b => decide (a = b)
  | .str a, .str b => decide (a = b)
  | .tuple xs, .tuple ys => sameAll xs ys
  | .list xs, .list ys => sameAll xs ys
  | _, _ => false
def sameAll : List D → List D → Bool
  | [], [] => true
  | x :: xs, y :: ys => same x y && sameAll xs ys
  | _, _ => false
end
mutual
theorem same_ok : ∀ {a b : D}, same a b = true → a = b
  | .none, .none, _ => rfl
  | .bool a, .bool b, h => by rw [show a = b from beq_iff_eq.mp h]
  | .int a, .int b, h => by rw [show a = b from of_decide_eq_true h]
  | .str a, .str b, h => by rw [show a = b from of_decide_eq_true h]
  | .tuple xs, .tuple ys, h => by rw [sameAll_ok (show sameAll xs ys = true from h)]
  | .list xs, .list ys, h => by rw [sameAll_ok (show sameAll xs ys = true from h)]
theorem sameAll_ok : ∀ {a b : List D}, sameAll a b = true → a = b
  | [], [], _ => rfl
  | x :: xs, y :: ys, h => by
    have h : (same x y && sameAll xs ys) = true := h
    rw [Bool.and_eq_true] at h
    rw [same_ok h.1, sameAll_ok h.2]
end
def rGood (xs : List D) : Bool := PyData.showable (.list xs) && (decide ((PyData.list xs).depth ≤ 64) && (rLo (.list xs) && fits (rLen (.list xs))))
theorem reprF_list {xs : List D} (h : rGood xs = true) : reprF [.list xs] = some (.fz (.str (PyData.shown (.list xs)))) := by
  unfold rGood at h
  rw [Bool.and_eq_true, Bool.and_eq_true] at h
  show (if PyData.showable (.list xs) && (decide ((PyData.list xs).depth ≤ 64) && okS (PyData.shown (.list xs))) then _ else _) = _
  rw [if_pos]
  rw [Bool.and_eq_true, Bool.and_eq_true]
  exact ⟨h.1, h.2.1, okS_shown h.2.2⟩
end DL
end
section
set_option maxRecDepth 100000
set_option maxHeartbeats 1000000
/-! DL40: running a denotation by rewriting: each combinator at an environment is a continuation at its first part's outcome; nothing is looked into before its environment is known -/
namespace DL
open PySem PySem.Spec L2
open PyProof.Rows hiding St
section
variable {α β : Type} {env e : En} {i j k n m : Nat} {d : D} {x : Ent} {c : Str} {b : Bool}
/-! ### slots -/
def kGet (x : Option Ent) : Option D := x.bind Ent.get
/-- run -/ theorem kGet_fz : kGet (some (.fz d)) = some d := rfl
/-- run -/ theorem kGet_ow : kGet (some (.ow d)) = some d := rfl
/-- run -/ theorem kGet_io : kGet (some (.io d)) = some d := rfl
/-- run -/ theorem get_v : Pl.get (.v d) e = some d := rfl
/-- run -/ theorem get_s : Pl.get (.s i) e = kGet e[i]? := rfl
def kName (x : Option Ent) (i : Nat) (env : En) : R En D := match x with
  | some (.fz d) => .ok d env
  | some (.ow d) => .ok d (env.set i (.fz d))
  | _ => .bad
/-- run -/ theorem r_name : dName i env = kName env[i]? i env := rfl
/-- run -/ theorem kName_fz : kName (some (.fz d)) i e = .ok d e := rfl
/-- run -/ theorem kName_ow : kName (some (.ow d)) i e = .ok d (e.set i (.fz d)) := rfl
def kSlot (x : Option Ent) (i : Nat) (env : En) : R En Pl := match x.bind Ent.get with
  | some _ => .ok (.s i) env
  | none => .bad
/-- run -/ theorem r_slot : dSlot i env = kSlot env[i]? i env := rfl
/-- run -/ theorem kSlot_fz : kSlot (some (.fz d)) i e = .ok (.s i) e := rfl
/-- run -/ theorem kSlot_ow : kSlot (some (.ow d)) i e = .ok (.s i) e := rfl
/-- run -/ theorem kSlot_io : kSlot (some (.io d)) i e = .ok (.s i) e := rfl
def kMove (x : Option Ent) (i : Nat) (env : En) : R En Ent := match x with
  | some (.fz d) => .ok (.fz d) env
  | some (.ow d) => .ok (.ow d) (env.set i .no)
  | _ => .bad
/-- run -/ theorem r_move : dMove i env = kMove env[i]? i env := rfl
/-- run -/ theorem kMove_fz : kMove (some (.fz d)) i e = .ok (.fz d) e := rfl
/-- run -/ theorem kMove_ow : kMove (some (.ow d)) i e = .ok (.ow d) (e.set i .no) := rfl
/-! ### from one judgement to another -/
/-- run -/ theorem r_pure {a : α} : M.pure a env = .ok a env := rfl
def kF (r : R En Ent) : R En D := match r with
  | .bad => .bad
  | .ok (.fz d) env' => .ok d env'
  | .ok (.ow d) env' => .ok d env'
  | .ok _ _ => .bad
  | .ex c d env' => .ex c d env'
/-- run -/ theorem r_F {f : M Ent} : mF f env = kF (f env) := rfl
/-- run -/ theorem kF_fz : kF (.ok (.fz d) e) = .ok d e := rfl
/-- run -/ theorem kF_ow : kF (.ok (.ow d) e) = .ok d e := rfl
/-- run -/ theorem kF_ex : kF (.ex c d e) = .ex c d e := rfl
def kO (r : R En D) : R En Ent := match r with
  | .bad => .bad
  | .ok d env' => .ok (.fz d) env'
  | .ex c d env' => .ex c d env'
/-- run -/ theorem r_O {f : M D} : mO f env = kO (f env) := rfl
/-- run -/ theorem kO_ok : kO (.ok d e) = .ok (.fz d) e := rfl
/-- run -/ theorem kO_ex : kO (.ex c d e) = .ex c d e := rfl
def kB (r : R En D) : R En Pl := match r with
  | .bad => .bad
  | .ok d env' => .ok (.v d) env'
  | .ex c d env' => .ex c d env'
/-- run -/ theorem r_B {f : M D} : mB f env = kB (f env) := rfl
/-- run -/ theorem kB_ok : kB (.ok d e) = .ok (.v d) e := rfl
/-- run -/ theorem kB_ex : kB (.ex c d e) = .ex c d e := rfl
/-! ### operators -/
def kFin (x : Option Ent) (e : En) : R En Ent := match x with
  | some x => .ok x e
  | none => .bad
/-- run -/ theorem kFin_some : kFin (some x) e = .ok x e := rfl
def kB3 (a b : Option D) (F : D → D → Option Ent) (e : En) : R En Ent := match a, b with
  | some a, some b => kFin (F a b) e
  | _, _ => .bad
/-- run -/ theorem kB3_some {F : D → D → Option Ent} {a b : D} : kB3 (some a) (some b) F e = kFin (F a b) e := rfl
def kB2 (r : R En Pl) (F : D → D → Option Ent) (p : Pl) : R En Ent := match r with
  | .bad => .bad
  | .ok q e => kB3 (p.get e) (q.get e) F e
  | .ex c d e => .ex c d e
/-- run -/ theorem kB2_ok {F : D → D → Option Ent} {p q : Pl} : kB2 (.ok q e) F p = kB3 (p.get e) (q.get e) F e := rfl
/-- run -/ theorem kB2_ex {F : D → D → Option Ent} {p : Pl} : kB2 (.ex c d e) F p = .ex c d e := rfl
def kB1 (r : R En Pl) (F : D → D → Option Ent) (g : M Pl) : R En Ent := match r with
  | .bad => .bad
  | .ok p e => kB2 (g e) F p
  | .ex c d e => .ex c d e
/-- run -/ theorem kB1_ok {F : D → D → Option Ent} {p : Pl} {g : M Pl} : kB1 (.ok p e) F g = kB2 (g e) F p := rfl
/-- run -/ theorem kB1_ex {F : D → D → Option Ent} {g : M Pl} : kB1 (.ex c d e) F g = .ex c d e := rfl
/-- run -/ theorem r_bin {F : D → D → Option Ent} {f g : M Pl} : dBin F f g env = kB1 (f env) F g := by
  unfold dBin M.two M.bind kB1
  cases f env with
  | bad => rfl
  | ex c d e => rfl
  | ok p e =>
    dsimp only
    unfold kB2
    cases g e with
    | bad => rfl
    | ex c d e => rfl
    | ok q e2 =>
      dsimp only
      unfold kB3
      cases p.get e2 with
      | none => rfl
      | some a =>
        cases q.get e2 with
        | none => rfl
        | some b =>
          dsimp only
          unfold kFin
          cases F a b <;> rfl
/-! ### tests -/
def kTest (r : R En D) : R En Bool := match r with
  | .ok (.bool b) env' => .ok b env'
  | .ok _ _ => .bad
  | .bad => .bad
  | .ex c d env' => .ex c d env'
/-- run -/ theorem r_test {f : M D} : dTest f env = kTest (f env) := rfl
/-- run -/ theorem kTest_ok : kTest (.ok (.bool b) e) = .ok b e := rfl
/-- run -/ theorem kTest_ex : kTest (.ex c d e) = .ex c d e := rfl
def kNot (r : R En D) : R En D := match r with
  | .ok (.bool b) env' => .ok (.bool (!b)) env'
  | .ok _ _ => .bad
  | .bad => .bad
  | .ex c d env' => .ex c d env'
/-- run -/ theorem r_not {f : M D} : dNot f env = kNot (f env) := rfl
/-- run -/ theorem kNot_ok : kNot (.ok (.bool b) e) = .ok (.bool (!b)) e := rfl
/-- run -/ theorem kNot_ex : kNot (.ex c d e) = .ex c d e := rfl
def kAnd (r : R En D) (g : M D) : R En D := match r with
  | .ok (.bool true) env' => g env'
  | .ok (.bool false) env' => .ok (.bool false) env'
  | .ok _ _ => .bad
  | .bad => .bad
  | .ex c d env' => .ex c d env'
/-- run -/ theorem r_and {f g : M D} : dAnd f g env = kAnd (f env) g := rfl
/-- run -/ theorem kAnd_t {g : M D} : kAnd (.ok (.bool true) e) g = g e := rfl
/-- run -/ theorem kAnd_f {g : M D} : kAnd (.ok (.bool false) e) g = .ok (.bool false) e := rfl
/-- run -/ theorem kAnd_ex {g : M D} : kAnd (.ex c d e) g = .ex c d e := rfl
def kOr (r : R En D) (g : M D) : R En D := match r with
  | .ok (.bool true) env' => .ok (.bool true) env'
  | .ok (.bool false) env' => g env'
  | .ok _ _ => .bad
  | .bad => .bad
  | .ex c d env' => .ex c d env'
/-- run -/ theorem r_or {f g : M D} : dOr f g env = kOr (f env) g := rfl
/-- run -/ theorem kOr_t {g : M D} : kOr (.ok (.bool true) e) g = .ok (.bool true) e := rfl
/-- run -/ theorem kOr_f {g : M D} : kOr (.ok (.bool false) e) g = g e := rfl
/-- run -/ theorem kOr_ex {g : M D} : kOr (.ex c d e) g = .ex c d e := rfl
def kAndT (r : R En Bool) (g : M Bool) : R En Bool := match r with
  | .ok true env' => g env'
  | .ok false env' => .ok false env'
  | .bad => .bad
  | .ex c d env' => .ex c d env'
/-- run -/ theorem r_andT {f g : M Bool} : dAndT f g env = kAndT (f env) g := rfl
/-- run -/ theorem kAndT_t {g : M Bool} : kAndT (.ok true e) g = g e := rfl
/-- run -/ theorem kAndT_f {g : M Bool} : kAndT (.ok false e) g = .ok false e := rfl
/-- run -/ theorem kAndT_ex {g : M Bool} : kAndT (.ex c d e) g = .ex c d e := rfl
def kOrT (r : R En Bool) (g : M Bool) : R En Bool := match r with
  | .ok true env' => .ok true env'
  | .ok false env' => g env'
  | .bad => .bad
  | .ex c d env' => .ex c d env'
/-- run -/ theorem r_orT {f g : M Bool} : dOrT f g env = kOrT (f env) g := rfl
/-- run -/ theorem kOrT_t {g : M Bool} : kOrT (.ok true e) g = .ok true e := rfl
/-- run -/ theorem kOrT_f {g : M Bool} : kOrT (.ok false e) g = g e := rfl
/-- run -/ theorem kOrT_ex {g : M Bool} : kOrT (.ex c d e) g = .ex c d e := rfl
def kNotT (r : R En Bool) : R En Bool := match r with
  | .ok b env' => .ok (!b) env'
  | .bad => .bad
  | .ex c d env' => .ex c d env'
/-- run -/ theorem r_notT {f : M Bool} : dNotT f env = kNotT (f env) := rfl
/-- run -/ theorem kNotT_ok : kNotT (.ok b e) = .ok (!b) e := rfl
/-- run -/ theorem kNotT_ex : kNotT (.ex c d e) = .ex c d e := rfl
def kIf (r : R En Bool) (f g : M α) : R En α := match r with
  | .ok true env' => f env'
  | .ok false env' => g env'
  | .bad => .bad
  | .ex c d env' => .ex c d env'
/-- run -/ theorem r_if {t : M Bool} {f g : M α} : dIf t f g env = kIf (t env) f g := rfl
/-- run -/ theorem r_lif {t : M Bool} {f g : M Fl} : lIf t f g env = kIf (t env) f g := rfl
/-- run -/ theorem kIf_t {f g : M α} : kIf (.ok true e) f g = f e := rfl
/-- run -/ theorem kIf_f {f g : M α} : kIf (.ok false e) f g = g e := rfl
/-- run -/ theorem kIf_ex {f g : M α} : kIf (.ex c d e) f g = .ex c d e := rfl
theorem kIf_ite {p : Prop} [Decidable p] {f g : M α} : kIf (.ok (decide p) e) f g = if p then f e else g e := by
  by_cases h : p <;> simp [h, kIf]
/-! ### displays, arguments -/
def kC2 (r : R En (List α)) (a : α) : R En (List α) := match r with
  | .bad => .bad
  | .ok as e => .ok (a :: as) e
  | .ex c d e => .ex c d e
/-- run -/ theorem kC2_ok {a : α} {as : List α} : kC2 (.ok as e) a = .ok (a :: as) e := rfl
/-- run -/ theorem kC2_ex {a : α} : kC2 (.ex c d e) a = .ex c d e := rfl
def kC1 (r : R En α) (g : M (List α)) : R En (List α) := match r with
  | .bad => .bad
  | .ok a e => kC2 (g e) a
  | .ex c d e => .ex c d e
/-- run -/ theorem kC1_ok {a : α} {g : M (List α)} : kC1 (.ok a e) g = kC2 (g e) a := rfl
/-- run -/ theorem kC1_ex {g : M (List α)} : kC1 (.ex c d e) g = .ex c d e := rfl
/-- run -/ theorem r_cons {f : M D} {g : M (List D)} : dCons f g env = kC1 (f env) g := by
  unfold dCons M.bind kC1
  cases f env with
  | bad => rfl
  | ex c d e => rfl
  | ok p e =>
    dsimp only
    unfold kC2
    cases g e <;> rfl
/-- run -/ theorem r_consP {f : M Pl} {g : M (List Pl)} : dConsP f g env = kC1 (f env) g := by
  unfold dConsP M.bind kC1
  cases f env with
  | bad => rfl
  | ex c d e => rfl
  | ok p e =>
    dsimp only
    unfold kC2
    cases g e <;> rfl
/-- run -/ theorem r_aoCons {f : M Ent} {g : M (List Ent)} : aoCons f g env = kC1 (f env) g := by
  unfold aoCons kC1
  cases f env with
  | bad => rfl
  | ex c d e => rfl
  | ok p e =>
    dsimp only
    unfold kC2
    cases g e <;> rfl
/-- run -/ theorem r_aoNil : aoNil env = .ok [] env := rfl
/-- run -/ theorem r_aNil : aNil env = .ok [] env := rfl
/-- run -/ theorem r_pNil : pNil env = .ok [] env := rfl
def kTup (r : R En (List D)) : R En D := match r with
  | .ok ds env' => if fits ds.length then .ok (.tuple ds) env' else .bad
  | .bad => .bad
  | .ex c d env' => .ex c d env'
/-- run -/ theorem r_tup {f : M (List D)} : dTup f env = kTup (f env) := rfl
/-- run -/ theorem kTup_ok {ds : List D} (h : ds.length ≤ 16777216) : kTup (.ok ds e) = .ok (.tuple ds) e := if_pos (decide_eq_true h)
/-- run -/ theorem kTup_ex : kTup (.ex c d e) = .ex c d e := rfl
def kLst (r : R En (List D)) : R En Ent := match r with
  | .ok ds env' => if fits ds.length then .ok (.ow (.list ds)) env' else .bad
  | .bad => .bad
  | .ex c d env' => .ex c d env'
/-- run -/ theorem r_lst {f : M (List D)} : dLst f env = kLst (f env) := rfl
/-- run -/ theorem kLst_ok {ds : List D} (h : ds.length ≤ 16777216) : kLst (.ok ds e) = .ok (.ow (.list ds)) e := if_pos (decide_eq_true h)
/-- run -/ theorem kLst_ex : kLst (.ex c d e) = .ex c d e := rfl
def kRep (r : R En Ent) (k : Int) : R En Ent := match r with
  | .ok (.ow (.list xs)) env' => if fits (xs.length * k.toNat) then .ok (.ow (.list (List.replicate k.toNat xs).flatten)) env' else .bad
  | .ok _ _ => .bad
  | .bad => .bad
  | .ex c d env' => .ex c d env'
/-- run -/ theorem r_rep {f : M Ent} {k : Int} : dRep f k env = kRep (f env) k := rfl
/-- run -/ theorem kRep_ok {xs : List D} {k : Int} (h : xs.length * k.toNat ≤ 16777216) : kRep (.ok (.ow (.list xs)) e) k = .ok (.ow (.list (List.replicate k.toNat xs).flatten)) e := if_pos (decide_eq_true h)
/-! ### calls -/
def kGA (a : Option D) (b : Option (List D)) : Option (List D) := match a, b with
  | some d, some ds => some (d :: ds)
  | _, _ => none
/-- run -/ theorem kGA_some {ds : List D} : kGA (some d) (some ds) = some (d :: ds) := rfl
/-- run -/ theorem getAll_nil : getAll e [] = some [] := rfl
/-- run -/ theorem getAll_cons {p : Pl} {ps : List Pl} : getAll e (p :: ps) = kGA (p.get e) (getAll e ps) := by
  show (match p.get e, getAll e ps with | some d, some ds => some (d :: ds) | _, _ => none) = _
  unfold kGA
  cases p.get e with
  | none => rfl
  | some a => cases getAll e ps <;> rfl
def kCB2 (a : Option (List D)) (F : List D → Option Ent) (e : En) : R En Ent := match a with
  | some ds => kFin (F ds) e
  | none => .bad
/-- run -/ theorem kCB2_some {F : List D → Option Ent} {ds : List D} : kCB2 (some ds) F e = kFin (F ds) e := rfl
def kCB (r : R En (List Pl)) (F : List D → Option Ent) : R En Ent := match r with
  | .ok ps e => kCB2 (getAll e ps) F e
  | .bad => .bad
  | .ex c d e => .ex c d e
/-- run -/ theorem kCB_ok {F : List D → Option Ent} {ps : List Pl} : kCB (.ok ps e) F = kCB2 (getAll e ps) F e := rfl
/-- run -/ theorem kCB_ex {F : List D → Option Ent} : kCB (.ex c d e) F = .ex c d e := rfl
/-- run -/ theorem r_callB {F : List D → Option Ent} {f : M (List Pl)} : dCallB F f env = kCB (f env) F := by
  unfold dCallB kCB
  cases f env with
  | bad => rfl
  | ex c d e => rfl
  | ok ps e =>
    dsimp only
    unfold kCB2
    cases getAll e ps with
    | none => rfl
    | some ds =>
      dsimp only
      unfold kFin
      cases F ds <;> rfl
def kMp (d : D) (x : Option (List D)) : Option (List D) := x.map (d :: ·)
/-- run -/ theorem kMp_some {ds : List D} : kMp d (some ds) = some (d :: ds) := rfl
/-- run -/ theorem ca_nil {io : Option Nat} : callArgs io e i [] = some [] := rfl
/-- run -/ theorem ca_none {ps : List Pl} : callArgs none e i (.v d :: ps) = kMp d (callArgs none e (i + 1) ps) := rfl
/-- run -/ theorem ca_some {ps : List Pl} (h0 : Nat.beq k i = false) : callArgs (some k) e i (.v d :: ps) = kMp d (callArgs (some k) e (i + 1) ps) := by
  have h : k ≠ i := Nat.ne_of_beq_eq_false h0
  show (if some k = some i then none else _) = _
  rw [if_neg fun z => h (Option.some.inj z)]
  rfl
def kCA (x : Option Ent) (r : Option (List D)) : Option (List D) := match x with
  | some (.ow d) => kMp d r
  | some (.io d) => kMp d r
  | _ => none
/-- run -/ theorem kCA_ow {r : Option (List D)} : kCA (some (.ow d)) r = kMp d r := rfl
/-- run -/ theorem kCA_io {r : Option (List D)} : kCA (some (.io d)) r = kMp d r := rfl
/-- run -/ theorem ca_io {ps : List Pl} : callArgs (some i) e i (.s j :: ps) = kCA e[j]? (callArgs (some i) e (i + 1) ps) := by
  show (if some i = some i then _ else _) = _
  rw [if_pos rfl]
  unfold kCA
  cases e[j]? with
  | none => rfl
  | some x => cases x <;> rfl
/-- run -/ theorem ios_none {ps : List Pl} : ioSlot none ps = none := rfl
def kIos (x : Option Pl) : Option Nat := match x with
  | some (.s j) => some j
  | _ => none
/-- run -/ theorem ios_some {ps : List Pl} : ioSlot (some i) ps = kIos ps[i]? := rfl
/-- run -/ theorem kIos_s : kIos (some (.s j)) = some j := rfl
def kPut (x : Option Ent) (j : Nat) (out : D) (e : En) : En := match x with
  | some (.ow _) => e.set j (.ow out)
  | some (.io _) => e.set j (.io out)
  | _ => e
/-- run -/ theorem put_none {out : D} : putOut none out e = e := rfl
/-- run -/ theorem put_some {out : D} : putOut (some j) out e = kPut e[j]? j out e := rfl
/-- run -/ theorem kPut_ow {out : D} : kPut (some (.ow d)) j out e = e.set j (.ow out) := rfl
/-- run -/ theorem kPut_io {out : D} : kPut (some (.io d)) j out e = e.set j (.io out) := rfl
def kCall3 (r : R D Ent) (sl : Option Nat) (e : En) : R En Ent := match r with
  | .ok x out => .ok x (putOut sl out e)
  | .ex k d out => .ex k d (putOut sl out e)
  | .bad => .bad
/-- run -/ theorem kCall3_ok {out : D} {sl : Option Nat} : kCall3 (.ok x out) sl e = .ok x (putOut sl out e) := rfl
/-- run -/ theorem kCall3_ex {out : D} {sl : Option Nat} : kCall3 (.ex c d out) sl e = .ex c d (putOut sl out e) := rfl
def kCall2 (a : Option (List D)) (sl : Option Nat) (n : Nat) (fn : DFn) (e : En) : R En Ent := match a with
  | some ds => if ds.length = n then kCall3 (fn ds) sl e else .bad
  | none => .bad
/-- run -/ theorem kCall2_some {ds : List D} {sl : Option Nat} {fn : DFn} (h : ds.length = n) : kCall2 (some ds) sl n fn e = kCall3 (fn ds) sl e := if_pos h
def kCall (r : R En (List Pl)) (io : Option Nat) (n : Nat) (fn : DFn) : R En Ent := match r with
  | .ok ps e => kCall2 (callArgs io e 0 ps) (ioSlot io ps) n fn e
  | .bad => .bad
  | .ex c d e => .ex c d e
/-- run -/ theorem kCall_ok {io : Option Nat} {ps : List Pl} {fn : DFn} : kCall (.ok ps e) io n fn = kCall2 (callArgs io e 0 ps) (ioSlot io ps) n fn e := rfl
/-- run -/ theorem kCall_ex {io : Option Nat} {fn : DFn} : kCall (.ex c d e) io n fn = .ex c d e := rfl
/-- run -/ theorem r_call {io : Option Nat} {fn : DFn} {f : M (List Pl)} : dCall io n fn f env = kCall (f env) io n fn := by
  unfold dCall kCall
  cases f env with
  | bad => rfl
  | ex c d e => rfl
  | ok ps e =>
    dsimp only
    unfold kCall2
    cases callArgs io e 0 ps with
    | none => rfl
    | some ds =>
      dsimp only
      by_cases h : ds.length = n
      · rw [if_pos h, if_pos h]
        unfold kCall3
        cases fn ds <;> rfl
      · rw [if_neg h, if_neg h]
def kCallK2 (r : R D Ent) (e : En) : R En Ent := match r with
  | .ok x _ => .ok x e
  | .ex k d _ => .ex k d e
  | .bad => .bad
/-- run -/ theorem kCallK2_ok {out : D} : kCallK2 (.ok x out) e = .ok x e := rfl
/-- run -/ theorem kCallK2_ex {out : D} : kCallK2 (.ex c d out) e = .ex c d e := rfl
def kCallK1 (ds : List D) (n : Nat) (fn : DFn) (e : En) : R En Ent := if ds.length = n then kCallK2 (fn ds) e else .bad
/-- run -/ theorem kCallK1_len {ds : List D} {fn : DFn} (h : ds.length = n) : kCallK1 ds n fn e = kCallK2 (fn ds) e := if_pos h
def kCallK (r : R En (List D)) (ix : List Nat) (n : Nat) (fn : DFn) : R En Ent := match r with
  | .ok dw e => kCallK1 (permL ix dw) n fn e
  | .bad => .bad
  | .ex c d e => .ex c d e
/-- run -/ theorem kCallK_ok {ix : List Nat} {fn : DFn} {dw : List D} : kCallK (.ok dw e) ix n fn = kCallK1 (permL ix dw) n fn e := rfl
/-- run -/ theorem kCallK_ex {ix : List Nat} {fn : DFn} : kCallK (.ex c d e) ix n fn = .ex c d e := rfl
/-- run -/ theorem r_callK {ix : List Nat} {fn : DFn} {f : M (List D)} : dCallK ix n fn f env = kCallK (f env) ix n fn := by
  unfold dCallK kCallK
  cases f env with
  | bad => rfl
  | ex c d e => rfl
  | ok dw e =>
    dsimp only
    unfold kCallK1
    by_cases h : (permL ix dw).length = n
    · rw [if_pos h, if_pos h]
      unfold kCallK2
      cases fn (permL ix dw) <;> rfl
    · rw [if_neg h, if_neg h]
/-- run -/ theorem perm_nil {l : List D} : permL [] l = [] := rfl
def kPc (x : Option D) (r : List D) : List D := match x with
  | some d => d :: r
  | none => r
/-- run -/ theorem perm_cons {l : List D} {ix : List Nat} : permL (i :: ix) l = kPc l[i]? (permL ix l) := by
  unfold permL kPc
  rw [List.filterMap_cons]
  cases l[i]? <;> rfl
/-- run -/ theorem kPc_some {r : List D} : kPc (some d) r = d :: r := rfl
/-! ### a def's body -/
/-- run -/ theorem init_nil {io : Option Nat} : initE io i [] = [] := rfl
/-- run -/ theorem init_none {ds : List D} : initE none i (d :: ds) = .fz d :: initE none (i + 1) ds := rfl
/-- run -/ theorem init_io {ds : List D} : initE (some i) i (d :: ds) = .io d :: initE (some i) (i + 1) ds := by
  show (if some i = some i then _ else _) :: _ = _
  rw [if_pos rfl]
/-- run -/ theorem init_some {ds : List D} (h0 : Nat.beq k i = false) : initE (some k) i (d :: ds) = .fz d :: initE (some k) (i + 1) ds := by
  have h : k ≠ i := Nat.ne_of_beq_eq_false h0
  show (if some k = some i then _ else _) :: _ = _
  rw [if_neg fun z => h (Option.some.inj z)]
def kOE (x : Option Ent) : Option D := match x with
  | some (.io d) => some d
  | _ => none
/-- run -/ theorem out_none : outOf none e = some .none := rfl
/-- run -/ theorem out_some : outOf (some i) e = kOE e[i]? := rfl
/-- run -/ theorem kOE_io : kOE (some (.io d)) = some d := rfl
def kOut (o : Option D) (x : Ent) : R D Ent := match o with
  | some o => .ok x o
  | none => .bad
/-- run -/ theorem kOut_some {o : D} : kOut (some o) x = .ok x o := rfl
def kOutX (o : Option D) (k : Str) (d : D) : R D Ent := match o with
  | some o => .ex k d o
  | none => .bad
/-- run -/ theorem kOutX_some {o : D} : kOutX (some o) c d = .ex c d o := rfl
def kRun (r : R En Fl) (io : Option Nat) : R D Ent := match r with
  | .ok .nx env => kOut (outOf io env) (.fz .none)
  | .ok (.rt x) env => kOut (outOf io env) x
  | .ok _ _ => .bad
  | .bad => .bad
  | .ex k d env => kOutX (outOf io env) k d
/-- run -/ theorem kRun_nx {io : Option Nat} : kRun (.ok .nx e) io = kOut (outOf io e) (.fz .none) := rfl
/-- run -/ theorem kRun_rt {io : Option Nat} : kRun (.ok (.rt x) e) io = kOut (outOf io e) x := rfl
/-- run -/ theorem kRun_ex {io : Option Nat} : kRun (.ex c d e) io = kOutX (outOf io e) c d := rfl
/-- run -/ theorem r_run {io : Option Nat} {g : M Fl} {ds : List D} : runFn io m g ds = kRun (g (initE io 0 ds ++ List.replicate m .no)) io := by
  unfold runFn kRun
  cases g (initE io 0 ds ++ List.replicate m .no) with
  | bad => rfl
  | ex c d e =>
    dsimp only
    unfold kOutX
    cases outOf io e <;> rfl
  | ok fl e =>
    cases fl with
    | nx =>
      dsimp only
      unfold kOut
      cases outOf io e <;> rfl
    | rt x =>
      dsimp only
      unfold kOut
      cases outOf io e <;> rfl
    | bk => rfl
    | ct => rfl
/-! ### statements -/
/-- run -/ theorem r_lnil : lNil env = .ok .nx env := rfl
def kSeq (r : R En Fl) (g : M Fl) : R En Fl := match r with
  | .ok .nx e => g e
  | .ok fl e => .ok fl e
  | .bad => .bad
  | .ex c d e => .ex c d e
/-- run -/ theorem r_seq {f g : M Fl} : lCons f g env = kSeq (f env) g := by
  unfold lCons kSeq
  cases f env with
  | bad => rfl
  | ex c d e => rfl
  | ok fl e => cases fl <;> rfl
/-- run -/ theorem kSeq_nx {g : M Fl} : kSeq (.ok .nx e) g = g e := rfl
/-- run -/ theorem kSeq_rt {g : M Fl} : kSeq (.ok (.rt x) e) g = .ok (.rt x) e := rfl
/-- run -/ theorem kSeq_bk {g : M Fl} : kSeq (.ok .bk e) g = .ok .bk e := rfl
/-- run -/ theorem kSeq_ct {g : M Fl} : kSeq (.ok .ct e) g = .ok .ct e := rfl
/-- run -/ theorem kSeq_ex {g : M Fl} : kSeq (.ex c d e) g = .ex c d e := rfl
/-- run -/ theorem kSeq_bad {g : M Fl} : kSeq .bad g = .bad := rfl
def kDrop (r : R En Ent) : R En Fl := match r with
  | .ok _ e => .ok .nx e
  | .bad => .bad
  | .ex c d e => .ex c d e
/-- run -/ theorem r_drop {f : M Ent} : lDrop f env = kDrop (f env) := rfl
/-- run -/ theorem kDrop_ok : kDrop (.ok x e) = .ok .nx e := rfl
/-- run -/ theorem kDrop_ex : kDrop (.ex c d e) = .ex c d e := rfl
def kRet (r : R En Ent) : R En Fl := match r with
  | .ok x e => .ok (.rt x) e
  | .bad => .bad
  | .ex c d e => .ex c d e
/-- run -/ theorem r_ret {f : M Ent} : lRet f env = kRet (f env) := rfl
/-- run -/ theorem kRet_ok : kRet (.ok x e) = .ok (.rt x) e := rfl
/-- run -/ theorem kRet_ex : kRet (.ex c d e) = .ex c d e := rfl
def kSet (r : R En Ent) (i : Nat) : R En Fl := match r with
  | .ok x e => if i < e.length then .ok .nx (e.set i x) else .bad
  | .bad => .bad
  | .ex c d e => .ex c d e
/-- run -/ theorem r_set {f : M Ent} : lSet i f env = kSet (f env) i := rfl
def kSet2 (y : Option Ent) (i : Nat) (x : Ent) (e : En) : R En Fl := match y with
  | some _ => .ok .nx (e.set i x)
  | none => .bad
/-- run -/ theorem kSet2_some {y : Ent} : kSet2 (some y) i x e = .ok .nx (e.set i x) := rfl
/-- run -/ theorem kSet_ok : kSet (.ok x e) i = kSet2 e[i]? i x e := by
  show (if i < e.length then _ else _) = _
  by_cases h : i < e.length
  · rw [if_pos h, List.getElem?_eq_getElem h]; rfl
  · rw [if_neg h, List.getElem?_eq_none (by omega)]; rfl
/-- run -/ theorem kSet_ex : kSet (.ex c d e) i = .ex c d e := rfl
def kAsg2 (r : R En Unit) : R En Fl := match r with
  | .ok _ e => .ok .nx e
  | .bad => .bad
  | .ex c d e => .ex c d e
/-- run -/ theorem kAsg2_ok {u : Unit} : kAsg2 (.ok u e) = .ok .nx e := rfl
def kAsg (r : R En D) (h : D → M Unit) : R En Fl := match r with
  | .ok d e => kAsg2 (h d e)
  | .bad => .bad
  | .ex c d e => .ex c d e
/-- run -/ theorem kAsg_ok {h : D → M Unit} : kAsg (.ok d e) h = kAsg2 (h d e) := rfl
/-- run -/ theorem kAsg_ex {h : D → M Unit} : kAsg (.ex c d e) h = .ex c d e := rfl
/-- run -/ theorem r_asg {f : M D} {h : D → M Unit} : lAsg f h env = kAsg (f env) h := by
  unfold lAsg kAsg
  cases f env with
  | bad => rfl
  | ex c d e => rfl
  | ok d e =>
    show (match h d e with | .ok _ e2 => _ | .bad => _ | .ex c d e' => _) = kAsg2 (h d e)
    cases h d e <;> rfl
def kTn (y : Option Ent) (i : Nat) (d : D) (e : En) : R En Unit := match y with
  | some _ => .ok () (e.set i (.fz d))
  | none => .bad
/-- run -/ theorem kTn_some {y : Ent} : kTn (some y) i d e = .ok () (e.set i (.fz d)) := rfl
/-- run -/ theorem t_name : tName i d env = kTn env[i]? i d env := by
  show (if i < env.length then _ else _) = _
  by_cases h : i < env.length
  · rw [if_pos h, List.getElem?_eq_getElem h]; rfl
  · rw [if_neg h, List.getElem?_eq_none (by omega)]; rfl
/-- run -/ theorem t_nil : DL.tNil [] env = .ok () env := rfl
def kTc (r : R En Unit) (hs : List D → M Unit) (ds : List D) : R En Unit := match r with
  | .ok _ e => hs ds e
  | .bad => .bad
  | .ex c d e => .ex c d e
/-- run -/ theorem kTc_ok {u : Unit} {hs : List D → M Unit} {ds : List D} : kTc (.ok u e) hs ds = hs ds e := rfl
/-- run -/ theorem t_cons {h : D → M Unit} {hs : List D → M Unit} {ds : List D} : DL.tCons h hs (d :: ds) env = kTc (h d env) hs ds := by
  show M.bind (h d) (fun _ => hs ds) env = _
  unfold M.bind kTc
  cases h d env <;> rfl
/-- run -/ theorem t_tup {h : List D → M Unit} {ds : List D} (z : ds.length = n) : DL.tTup n h (.tuple ds) env = h ds env := by
  show (if ds.length = n then h ds else fun _ => .bad) env = _
  rw [if_pos z]
def kSub4 (x : Option Nat) (xs : List D) (d : D) (j : Nat) (e : En) : R En Unit := match x with
  | some m => .ok () (putOut (some j) (.list (xs.set m d)) e)
  | none => .bad
/-- run -/ theorem kSub4_some {xs : List D} : kSub4 (some m) xs d j e = .ok () (putOut (some j) (.list (xs.set m d)) e) := rfl
def kSub3 (x : Option (List D)) (k : Int) (d : D) (j : Nat) (e : En) : R En Unit := match x with
  | some xs => kSub4 (ixN xs.length k) xs d j e
  | none => .bad
/-- run -/ theorem kSub3_some {xs : List D} {k : Int} : kSub3 (some xs) k d j e = kSub4 (ixN xs.length k) xs d j e := rfl
def kSub2 (r : R En D) (d : D) (j : Nat) : R En Unit := match r with
  | .ok (.int k) e => kSub3 (DL.ownL e[j]?) k d j e
  | .ok _ _ => .bad
  | .bad => .bad
  | .ex c d e => .ex c d e
/-- run -/ theorem kSub2_ok {k : Int} : kSub2 (.ok (.int k) e) d j = kSub3 (DL.ownL e[j]?) k d j e := rfl
def kSub (r : R En Pl) (f : M D) (d : D) : R En Unit := match r with
  | .ok (.s j) e => kSub2 (f e) d j
  | .ok _ _ => .bad
  | .bad => .bad
  | .ex c d e => .ex c d e
/-- run -/ theorem kSub_ok {f : M D} : kSub (.ok (.s j) e) f d = kSub2 (f e) d j := rfl
/-- run -/ theorem t_sub {p : M Pl} {f : M D} : DL.tSub p f d env = kSub (p env) f d := by
  unfold DL.tSub kSub
  cases p env with
  | bad => rfl
  | ex c d e => rfl
  | ok p e =>
    cases p with
    | v _ => rfl
    | s j =>
      dsimp only
      cases f e with
      | bad => rfl
      | ex c d e => rfl
      | ok q e2 =>
        cases q <;> rfl
/-- run -/ theorem ownL_ow {xs : List D} : DL.ownL (some (.ow (.list xs))) = some xs := rfl
/-- run -/ theorem ownL_io {xs : List D} : DL.ownL (some (.io (.list xs))) = some xs := rfl
def kPar (r : R En (List Ent)) (is : List Nat) : R En Fl := match r with
  | .ok xs e => if xs.length = is.length ∧ ∀ i ∈ is, i < e.length then .ok .nx (setEn is xs e) else .bad
  | .bad => .bad
  | .ex c d e => .ex c d e
/-- run -/ theorem r_par {is : List Nat} {f : M (List Ent)} : lPar is f env = kPar (f env) is := rfl
/-- run -/ theorem kPar_ok {xs : List Ent} {is : List Nat} (h1 : xs.length = is.length) (h : (is.all fun i => (e[i]?).isSome) = true) : kPar (.ok xs e) is = .ok .nx (setEn is xs e) := by
  rw [List.all_eq_true] at h
  refine if_pos ⟨h1, fun i hi => ?_⟩
  have z := h i hi
  cases q : e[i]? with
  | none => rw [q] at z; cases z
  | some _ => exact (List.getElem?_eq_some_iff.mp q).1
/-- run -/ theorem kPar_ex {is : List Nat} : kPar (.ex c d e) is = .ex c d e := rfl
def kAug2 (y : Option Ent) (i : Nat) (e : En) : R En Fl := match y with
  | some (.fz d) => .ok .nx (e.set i (.fz d))
  | _ => .bad
/-- run -/ theorem kAug2_some : kAug2 (some (.fz d)) i e = .ok .nx (e.set i (.fz d)) := rfl
def kAug1 (r : R En D) (i : Nat) (F : D → D → Option Ent) (a : D) : R En Fl := match r with
  | .ok b e => kAug2 (F a b) i e
  | .bad => .bad
  | .ex c d e => .ex c d e
/-- run -/ theorem kAug1_ok {F : D → D → Option Ent} {a b : D} : kAug1 (.ok b e) i F a = kAug2 (F a b) i e := rfl
def kAug (x : Option Ent) (f : M D) (i : Nat) (F : D → D → Option Ent) (env : En) : R En Fl := match x with
  | some (.fz a) => kAug1 (f env) i F a
  | _ => .bad
/-- run -/ theorem kAug_fz {f : M D} {F : D → D → Option Ent} {a : D} : kAug (some (.fz a)) f i F env = kAug1 (f env) i F a := rfl
/-- run -/ theorem r_aug {f : M D} {F : D → D → Option Ent} : lAug i F f env = kAug env[i]? f i F env := by
  unfold lAug kAug
  cases env[i]? with
  | none => rfl
  | some x =>
    cases x with
    | fz a =>
      dsimp only
      unfold kAug1
      cases f env with
      | bad => rfl
      | ex c d e => rfl
      | ok b e =>
        dsimp only
        unfold kAug2
        cases F a b with
        | none => rfl
        | some y => cases y <;> rfl
    | _ => rfl
/-! ### methods that write -/
def kM5 (y : Option (D × List D)) (i : Nat) (e : En) : R En Ent := match y with
  | some (x, ys) => .ok (.fz x) (putOut (some i) (.list ys) e)
  | none => .bad
/-- run -/ theorem kM5_some {y : D} {ys : List D} : kM5 (some (y, ys)) i e = .ok (.fz y) (putOut (some i) (.list ys) e) := rfl
def kM4 (x : Option (List D)) (args : List D) (i : Nat) (mf : MF) (e : En) : R En Ent := match x with
  | some xs => kM5 (mf xs args) i e
  | none => .bad
/-- run -/ theorem kM4_some {xs args : List D} {mf : MF} : kM4 (some xs) args i mf e = kM5 (mf xs args) i e := rfl
def kM3 (r : R En (List D)) (i : Nat) (mf : MF) : R En Ent := match r with
  | .ok args e => kM4 (DL.ownL e[i]?) args i mf e
  | .bad => .bad
  | .ex c d e => .ex c d e
/-- run -/ theorem kM3_ok {args : List D} {mf : MF} : kM3 (.ok args e) i mf = kM4 (DL.ownL e[i]?) args i mf e := rfl
/-- run -/ theorem kM3_ex {mf : MF} : kM3 (.ex c d e) i mf = .ex c d e := rfl
def kM2 (x : Option (List D)) (i : Nat) (mf : MF) (f : M (List D)) (e : En) : R En Ent := match x with
  | some _ => kM3 (f e) i mf
  | none => .bad
/-- run -/ theorem kM2_some {xs : List D} {mf : MF} {f : M (List D)} : kM2 (some xs) i mf f e = kM3 (f e) i mf := rfl
def kM1 (r : R En Pl) (mf : MF) (f : M (List D)) : R En Ent := match r with
  | .ok (.s i) e => kM2 (DL.ownL e[i]?) i mf f e
  | .ok _ _ => .bad
  | .bad => .bad
  | .ex c d e => .ex c d e
/-- run -/ theorem kM1_ok {mf : MF} {f : M (List D)} : kM1 (.ok (.s i) e) mf f = kM2 (DL.ownL e[i]?) i mf f e := rfl
/-- run -/ theorem r_meth {mf : MF} {p : M Pl} {f : M (List D)} : dMeth mf p f env = kM1 (p env) mf f := by
  unfold dMeth kM1
  cases p env with
  | bad => rfl
  | ex c d e => rfl
  | ok p e =>
    cases p with
    | v _ => rfl
    | s j =>
      dsimp only
      unfold kM2
      cases DL.ownL e[j]? with
      | none => rfl
      | some xs =>
        dsimp only
        unfold kM3
        cases f e with
        | bad => rfl
        | ex c d e => rfl
        | ok args e2 =>
          dsimp only
          unfold kM4
          cases DL.ownL e2[j]? with
          | none => rfl
          | some xs =>
            dsimp only
            unfold kM5
            cases mf xs args with
            | none => rfl
            | some y => cases y; rfl
/-! ### methods that read -/
def kR3 (a : Option D) (args : List D) (F : D → List D → Option Ent) (e : En) : R En Ent := match a with
  | some d => kFin (F d args) e
  | none => .bad
/-- run -/ theorem kR3_some {args : List D} {F : D → List D → Option Ent} : kR3 (some d) args F e = kFin (F d args) e := rfl
def kR2 (r : R En (List D)) (F : D → List D → Option Ent) (p : Pl) : R En Ent := match r with
  | .ok args e => kR3 (p.get e) args F e
  | .bad => .bad
  | .ex c d e => .ex c d e
/-- run -/ theorem kR2_ok {args : List D} {F : D → List D → Option Ent} {p : Pl} : kR2 (.ok args e) F p = kR3 (p.get e) args F e := rfl
/-- run -/ theorem kR2_ex {F : D → List D → Option Ent} {p : Pl} : kR2 (.ex c d e) F p = .ex c d e := rfl
def kR1b (T : String) (a : Option D) (F : D → List D → Option Ent) (f : M (List D)) (p : Pl) (e : En) : R En Ent := match a with
  | some d => if tyD d = some T then kR2 (f e) F p else .bad
  | none => .bad
/-- run -/ theorem kR1b_some {T : String} {F : D → List D → Option Ent} {f : M (List D)} {p : Pl} (h : tyD d = some T) : kR1b T (some d) F f p e = kR2 (f e) F p := if_pos h
def kR1 (r : R En Pl) (T : String) (F : D → List D → Option Ent) (f : M (List D)) : R En Ent := match r with
  | .ok p e => kR1b T (p.get e) F f p e
  | .bad => .bad
  | .ex c d e => .ex c d e
/-- run -/ theorem kR1_ok {T : String} {F : D → List D → Option Ent} {f : M (List D)} {p : Pl} : kR1 (.ok p e) T F f = kR1b T (p.get e) F f p e := rfl
/-- run -/ theorem kR1_ex {T : String} {F : D → List D → Option Ent} {f : M (List D)} : kR1 (.ex c d e) T F f = .ex c d e := rfl
/-- run -/ theorem r_rd {T : String} {F : D → List D → Option Ent} {p : M Pl} {f : M (List D)} : dRd T F p f env = kR1 (p env) T F f := by
  unfold dRd kR1
  cases p env with
  | bad => rfl
  | ex c d e => rfl
  | ok p e =>
    dsimp only
    unfold kR1b
    cases p.get e with
    | none => rfl
    | some d0 =>
      dsimp only
      by_cases h : tyD d0 = some T
      · rw [if_pos h, if_pos h]
        unfold kR2
        cases f e with
        | bad => rfl
        | ex c d e => rfl
        | ok args e2 =>
          dsimp only
          unfold kR3
          cases p.get e2 with
          | none => rfl
          | some d =>
            dsimp only
            unfold kFin
            cases F d args <;> rfl
      · rw [if_neg h, if_neg h]
/-! ### kinds, slices -/
def kIsi2 (a : Option D) (T : String) (e : En) : R En D := match a with
  | some d => .ok (.bool (isD1 T d)) e
  | none => .bad
/-- run -/ theorem kIsi2_some {T : String} : kIsi2 (some d) T e = .ok (.bool (isD1 T d)) e := rfl
def kIsi (r : R En Pl) (T : String) : R En D := match r with
  | .ok p e => kIsi2 (p.get e) T e
  | .bad => .bad
  | .ex c d e => .ex c d e
/-- run -/ theorem kIsi_ok {T : String} {p : Pl} : kIsi (.ok p e) T = kIsi2 (p.get e) T e := rfl
/-- run -/ theorem r_isi {T : String} {f : M Pl} : dIsi T f env = kIsi (f env) T := by
  unfold dIsi kIsi
  cases f env with
  | bad => rfl
  | ex c d e => rfl
  | ok p e =>
    dsimp only
    unfold kIsi2
    cases p.get e <;> rfl
def kPart (r : R En D) : R En (Option Int) := match r with
  | .ok (.int i) e => .ok (some i) e
  | .ok _ _ => .bad
  | .bad => .bad
  | .ex c d e => .ex c d e
/-- run -/ theorem r_part {f : M D} : dPart f env = kPart (f env) := rfl
/-- run -/ theorem kPart_ok {i : Int} : kPart (.ok (.int i) e) = .ok (some i) e := rfl
def kSl4 (a : Option D) (F : D → Option Int → Option Int → Option Ent) (i j : Option Int) (e : En) : R En Ent := match a with
  | some d => kFin (F d i j) e
  | none => .bad
/-- run -/ theorem kSl4_some {F : D → Option Int → Option Int → Option Ent} {i j : Option Int} : kSl4 (some d) F i j e = kFin (F d i j) e := rfl
def kSl3 (r : R En (Option Int)) (F : D → Option Int → Option Int → Option Ent) (p : Pl) (i : Option Int) : R En Ent := match r with
  | .bad => .bad
  | .ok j e => kSl4 (p.get e) F i j e
  | .ex c d e => .ex c d e
/-- run -/ theorem kSl3_ok {F : D → Option Int → Option Int → Option Ent} {p : Pl} {i j : Option Int} : kSl3 (.ok j e) F p i = kSl4 (p.get e) F i j e := rfl
def kSl2 (r : R En (Option Int)) (F : D → Option Int → Option Int → Option Ent) (h : M (Option Int)) (p : Pl) : R En Ent := match r with
  | .bad => .bad
  | .ok i e => kSl3 (h e) F p i
  | .ex c d e => .ex c d e
/-- run -/ theorem kSl2_ok {F : D → Option Int → Option Int → Option Ent} {h : M (Option Int)} {p : Pl} {i : Option Int} : kSl2 (.ok i e) F h p = kSl3 (h e) F p i := rfl
def kSl1 (r : R En Pl) (F : D → Option Int → Option Int → Option Ent) (l h : M (Option Int)) : R En Ent := match r with
  | .bad => .bad
  | .ok p e => kSl2 (l e) F h p
  | .ex c d e => .ex c d e
/-- run -/ theorem kSl1_ok {F : D → Option Int → Option Int → Option Ent} {l h : M (Option Int)} {p : Pl} : kSl1 (.ok p e) F l h = kSl2 (l e) F h p := rfl
/-- run -/ theorem kSl1_ex {F : D → Option Int → Option Int → Option Ent} {l h : M (Option Int)} : kSl1 (.ex c d e) F l h = .ex c d e := rfl
/-- run -/ theorem r_sl {F : D → Option Int → Option Int → Option Ent} {f : M Pl} {l h : M (Option Int)} : dSl F f l h env = kSl1 (f env) F l h := by
  unfold dSl M.bind kSl1
  cases f env with
  | bad => rfl
  | ex c d e => rfl
  | ok p e =>
    dsimp only
    unfold kSl2
    cases l e with
    | bad => rfl
    | ex c d e => rfl
    | ok i e2 =>
      dsimp only
      unfold kSl3
      cases h e2 with
      | bad => rfl
      | ex c d e => rfl
      | ok j e3 =>
        dsimp only
        unfold kSl4
        cases p.get e3 with
        | none => rfl
        | some d =>
          dsimp only
          unfold kFin
          cases F d i j <;> rfl
def kNeg (r : R En D) : R En D := match r with
  | .ok (.int i) e => .ok (.int (-i)) e
  | .ok _ _ => .bad
  | .bad => .bad
  | .ex c d e => .ex c d e
/-- run -/ theorem r_neg {f : M D} : dNeg f env = kNeg (f env) := rfl
/-- run -/ theorem kNeg_ok {i : Int} : kNeg (.ok (.int i) e) = .ok (.int (-i)) e := rfl
/-! ### chains -/
def kCh4 (x : Option Ent) (e : En) : R En D := match x with
  | some (.fz d) => .ok d e
  | _ => .bad
/-- run -/ theorem kCh4_some : kCh4 (some (.fz d)) e = .ok d e := rfl
def kCh4b (a b : Option D) (F : D → D → Option Ent) (e : En) : R En D := match a, b with
  | some a, some b => kCh4 (F a b) e
  | _, _ => .bad
/-- run -/ theorem kCh4b_some {F : D → D → Option Ent} {a b : D} : kCh4b (some a) (some b) F e = kCh4 (F a b) e := rfl
def kCh3 (r : R En Pl) (F' : D → D → Option Ent) (q : Pl) : R En D := match r with
  | .ok r e => kCh4b (q.get e) (r.get e) F' e
  | .bad => .bad
  | .ex c d e => .ex c d e
/-- run -/ theorem kCh3_ok {F' : D → D → Option Ent} {q r : Pl} : kCh3 (.ok r e) F' q = kCh4b (q.get e) (r.get e) F' e := rfl
def kCh2c (x : Option Ent) (F' : D → D → Option Ent) (h : M Pl) (q : Pl) (e : En) : R En D := match x with
  | some (.fz (.bool false)) => .ok (.bool false) e
  | some (.fz (.bool true)) => kCh3 (h e) F' q
  | _ => .bad
/-- run -/ theorem kCh2c_f {F' : D → D → Option Ent} {h : M Pl} {q : Pl} : kCh2c (some (.fz (.bool false))) F' h q e = .ok (.bool false) e := rfl
/-- run -/ theorem kCh2c_t {F' : D → D → Option Ent} {h : M Pl} {q : Pl} : kCh2c (some (.fz (.bool true))) F' h q e = kCh3 (h e) F' q := rfl
def kCh2b (a b : Option D) (F F' : D → D → Option Ent) (h : M Pl) (q : Pl) (e : En) : R En D := match a, b with
  | some a, some b => kCh2c (F a b) F' h q e
  | _, _ => .bad
/-- run -/ theorem kCh2b_some {F F' : D → D → Option Ent} {h : M Pl} {q : Pl} {a b : D} : kCh2b (some a) (some b) F F' h q e = kCh2c (F a b) F' h q e := rfl
def kCh2 (r : R En Pl) (F F' : D → D → Option Ent) (h : M Pl) (p : Pl) : R En D := match r with
  | .ok q e => kCh2b (p.get e) (q.get e) F F' h q e
  | .bad => .bad
  | .ex c d e => .ex c d e
/-- run -/ theorem kCh2_ok {F F' : D → D → Option Ent} {h : M Pl} {p q : Pl} : kCh2 (.ok q e) F F' h p = kCh2b (p.get e) (q.get e) F F' h q e := rfl
def kCh1 (r : R En Pl) (F F' : D → D → Option Ent) (g h : M Pl) : R En D := match r with
  | .ok p e => kCh2 (g e) F F' h p
  | .bad => .bad
  | .ex c d e => .ex c d e
/-- run -/ theorem kCh1_ok {F F' : D → D → Option Ent} {g h : M Pl} {p : Pl} : kCh1 (.ok p e) F F' g h = kCh2 (g e) F F' h p := rfl
/-- run -/ theorem r_chain {F F' : D → D → Option Ent} {f g h : M Pl} : dChain F F' f g h env = kCh1 (f env) F F' g h := by
  unfold dChain kCh1
  cases f env with
  | bad => rfl
  | ex c d e => rfl
  | ok p e =>
    dsimp only
    unfold kCh2
    cases g e with
    | bad => rfl
    | ex c d e => rfl
    | ok q e2 =>
      dsimp only
      unfold kCh2b
      cases p.get e2 with
      | none => rfl
      | some a =>
        cases q.get e2 with
        | none => rfl
        | some b =>
          dsimp only
          unfold kCh2c
          cases F a b with
          | none => rfl
          | some y =>
            cases y with
            | fz dd =>
              cases dd with
              | bool bb =>
                cases bb with
                | false => rfl
                | true =>
                  dsimp only
                  unfold kCh3
                  cases h e2 with
                  | bad => rfl
                  | ex c d e => rfl
                  | ok r e3 =>
                    dsimp only
                    unfold kCh4b
                    cases q.get e3 with
                    | none => rfl
                    | some d2 =>
                      cases r.get e3 with
                      | none => rfl
                      | some d3 =>
                        dsimp only
                        unfold kCh4
                        cases F' d2 d3 with
                        | none => rfl
                        | some z => cases z <;> rfl
              | _ => rfl
            | _ => rfl
/-! ### errors -/
def kRaise (r : R En D) (k : Str) : R En Fl := match r with
  | .ok d e => .ex k d e
  | .bad => .bad
  | .ex c d e => .ex c d e
/-- run -/ theorem r_raise {k : Str} {f : M D} : lRaise k f env = kRaise (f env) k := rfl
/-- run -/ theorem kRaise_ok {k : Str} : kRaise (.ok d e) k = .ex k d e := rfl
def kTry3 (r : R En Fl) (i : Nat) : R En Fl := match r with
  | .ok .nx env2 => if noXc (env2.set i .no) then .ok .nx (env2.set i .no) else .bad
  | .ok .bk env2 => if noXc (env2.set i .no) then .ok .bk (env2.set i .no) else .bad
  | .ok .ct env2 => if noXc (env2.set i .no) then .ok .ct (env2.set i .no) else .bad
  | .ok (.rt (.fz x)) env2 => if noXc (env2.set i .no) then .ok (.rt (.fz x)) (env2.set i .no) else .bad
  | _ => .bad
/-- run -/ theorem kTry3_nx (h : noXc (e.set i .no) = true) : kTry3 (.ok .nx e) i = .ok .nx (e.set i .no) := if_pos h
/-- run -/ theorem kTry3_rt (h : noXc (e.set i .no) = true) : kTry3 (.ok (.rt (.fz d)) e) i = .ok (.rt (.fz d)) (e.set i .no) := if_pos h
def kTry (r : R En Fl) (xs : List Str) (l : Str) (i : Nat) (g : M Fl) : R En Fl := match r with
  | .ex k d env1 => if xs.contains k then (if isSub k l then (if noXc env1 && decide (i < env1.length) then kTry3 (g (env1.set i (.xc k d))) i else .bad) else .ex k d env1) else .bad
  | r => r
/-- run -/ theorem kTry_ok {xs : List Str} {l : Str} {g : M Fl} {fl : Fl} : kTry (.ok fl e) xs l i g = .ok fl e := rfl
/-- run -/ theorem kTry_in {xs : List Str} {l : Str} {g : M Fl} (h : (xs.contains c && isSub c l) = true) (h2 : noXc e = true) (h0 : (e[i]?).isSome = true) : kTry (.ex c d e) xs l i g = kTry3 (g (e.set i (.xc c d))) i := by
  have h3 : i < e.length := by
    cases q : e[i]? with
    | none => rw [q] at h0; cases h0
    | some _ => exact (List.getElem?_eq_some_iff.mp q).1
  rw [Bool.and_eq_true] at h
  show (if xs.contains c then _ else _) = _
  rw [if_pos h.1, if_pos h.2, if_pos]
  rw [h2, decide_eq_true h3]
  rfl
/-- run -/ theorem r_try {xs : List Str} {l : Str} {f g : M Fl} : lTry xs l i f g env = kTry (f env) xs l i g := by
  unfold lTry kTry
  cases f env with
  | bad => rfl
  | ok fl e => rfl
  | ex k d e =>
    dsimp only
    split
    · split
      · split
        · unfold kTry3
          cases g (e.set i (.xc k d)) with
          | bad => rfl
          | ex _ _ _ => rfl
          | ok fl e2 =>
            cases fl with
            | rt x => cases x <;> rfl
            | _ => rfl
        · rfl
      · rfl
    · rfl
/-- run -/ theorem noXc_nil : noXc [] = true := rfl
/-- run -/ theorem noXc_fz : noXc (.fz d :: e) = noXc e := rfl
/-- run -/ theorem noXc_ow : noXc (.ow d :: e) = noXc e := rfl
/-- run -/ theorem noXc_io : noXc (.io d :: e) = noXc e := rfl
/-- run -/ theorem noXc_no : noXc (.no :: e) = noXc e := rfl
def kXval (x : Option Ent) (xs : List Str) (env : En) : R En D := match x with
  | some (.xc k d) => if xs.contains k then .ok d env else .bad
  | _ => .bad
/-- run -/ theorem r_xval {xs : List Str} : dXval xs i env = kXval env[i]? xs env := rfl
/-- run -/ theorem kXval_xc {xs : List Str} (h : xs.contains c = true) : kXval (some (.xc c d)) xs e = .ok d e := if_pos h
def kXis (x : Option Ent) (xs : List Str) (l : Str) (env : En) : R En D := match x with
  | some (.xc k _) => if xs.contains k then .ok (.bool (isSub k l)) env else .bad
  | _ => .bad
/-- run -/ theorem r_xis {xs : List Str} {l : Str} : dXis xs l i env = kXis env[i]? xs l env := rfl
/-- run -/ theorem kXis_xc {xs : List Str} {l : Str} (h : xs.contains c = true) : kXis (some (.xc c d)) xs l e = .ok (.bool (isSub c l)) e := if_pos h
/-! ### loops -/
def kSq2 (x : Option (List D)) (e : En) : R En (List D) := match x with
  | some ds => .ok ds e
  | none => .bad
/-- run -/ theorem kSq2_some {ds : List D} : kSq2 (some ds) e = .ok ds e := rfl
def kSq (r : R En D) : R En (List D) := match r with
  | .ok d e => kSq2 (seqD d) e
  | .bad => .bad
  | .ex c d e => .ex c d e
/-- run -/ theorem kSq_ok : kSq (.ok d e) = kSq2 (seqD d) e := rfl
/-- run -/ theorem kSq_ex : kSq (.ex c d e) = .ex c d e := rfl
/-- run -/ theorem r_seqI {f : M D} : gSeq f env = kSq (f env) := by
  unfold gSeq kSq
  cases f env with
  | bad => rfl
  | ex c d e => rfl
  | ok d e =>
    dsimp only
    unfold kSq2
    cases seqD d <;> rfl
/-- run -/ theorem seqD_list {xs : List D} : seqD (.list xs) = some xs := rfl
/-- run -/ theorem seqD_tup {xs : List D} : seqD (.tuple xs) = some xs := rfl
/-- run -/ theorem seqD_str {y : Str} : seqD (.str y) = some (chars y) := rfl
def kRg1 (r : R En (List D)) : R En (List D) := match r with
  | .ok [.int j] env' => if j ≤ 16777216 ∧ -16777216 ≤ j then .ok (ups 0 j.toNat) env' else .bad
  | .ok _ _ => .bad
  | .bad => .bad
  | .ex c d env' => .ex c d env'
/-- run -/ theorem r_rg1 {f : M (List D)} : gRng1 f env = kRg1 (f env) := rfl
/-- run -/ theorem kRg1_ok {j : Int} (h : j ≤ 16777216) (h2 : -16777216 ≤ j) : kRg1 (.ok [.int j] e) = .ok (ups 0 j.toNat) e := if_pos ⟨h, h2⟩
def kRg2 (r : R En (List D)) : R En (List D) := match r with
  | .ok [.int i, .int j] env' => if (j ≤ 16777216 ∧ -16777216 ≤ j) ∧ (i ≤ 16777216 ∧ -16777216 ≤ i) ∧ j - i ≤ 16777216 then .ok (ups i (j - i).toNat) env' else .bad
  | .ok _ _ => .bad
  | .bad => .bad
  | .ex c d env' => .ex c d env'
/-- run -/ theorem r_rg2 {f : M (List D)} : gRng2 f env = kRg2 (f env) := rfl
/-- run -/ theorem kRg2_ok {i j : Int} (h : (j ≤ 16777216 ∧ -16777216 ≤ j) ∧ (i ≤ 16777216 ∧ -16777216 ≤ i) ∧ j - i ≤ 16777216) : kRg2 (.ok [.int i, .int j] e) = .ok (ups i (j - i).toNat) e := if_pos h
def kZip2 (a b : Option (List D)) (e : En) : R En (List D) := match a, b with
  | some as, some bs => .ok (pairs as bs) e
  | _, _ => .bad
/-- run -/ theorem kZip2_some {a b : List D} : kZip2 (some a) (some b) e = .ok (pairs a b) e := rfl
def kZip (r : R En (List D)) : R En (List D) := match r with
  | .ok [a, b] e => kZip2 (seqD a) (seqD b) e
  | .ok _ _ => .bad
  | .bad => .bad
  | .ex c d e => .ex c d e
/-- run -/ theorem r_zip {f : M (List D)} : gZip f env = kZip (f env) := by
  unfold gZip kZip
  cases f env with
  | bad => rfl
  | ex c d e => rfl
  | ok ds e =>
    cases ds with
    | nil => rfl
    | cons a r =>
      cases r with
      | nil => rfl
      | cons b r =>
        cases r with
        | cons _ _ => rfl
        | nil =>
          dsimp only
          unfold kZip2
          cases seqD a with
          | none => rfl
          | some as => cases seqD b <;> rfl
/-- run -/ theorem kZip_ok {a b : D} : kZip (.ok [a, b] e) = kZip2 (seqD a) (seqD b) e := rfl
def kEnum2 (a : Option (List D)) (e : En) : R En (List D) := match a with
  | some as => .ok (count 0 as) e
  | none => .bad
/-- run -/ theorem kEnum2_some {a : List D} : kEnum2 (some a) e = .ok (count 0 a) e := rfl
def kEnum (r : R En (List D)) : R En (List D) := match r with
  | .ok [a] e => kEnum2 (seqD a) e
  | .ok _ _ => .bad
  | .bad => .bad
  | .ex c d e => .ex c d e
/-- run -/ theorem r_enum {f : M (List D)} : gEnum f env = kEnum (f env) := by
  unfold gEnum kEnum
  cases f env with
  | bad => rfl
  | ex c d e => rfl
  | ok ds e =>
    cases ds with
    | nil => rfl
    | cons a r =>
      cases r with
      | cons _ _ => rfl
      | nil =>
        dsimp only
        unfold kEnum2
        cases seqD a <;> rfl
/-- run -/ theorem kEnum_ok {a : D} : kEnum (.ok [a] e) = kEnum2 (seqD a) e := rfl
def kTz2 (a b : Option (List D)) (e : En) : R En Ent := match a, b with
  | some as, some bs => .ok (.fz (.tuple (pairs as bs))) e
  | _, _ => .bad
/-- run -/ theorem kTz2_some {a b : List D} : kTz2 (some a) (some b) e = .ok (.fz (.tuple (pairs a b))) e := rfl
def kTz (r : R En (List D)) : R En Ent := match r with
  | .ok [a, b] e => kTz2 (seqD a) (seqD b) e
  | .ok _ _ => .bad
  | .bad => .bad
  | .ex c d e => .ex c d e
/-- run -/ theorem kTz_ok {a b : D} : kTz (.ok [a, b] e) = kTz2 (seqD a) (seqD b) e := rfl
/-- run -/ theorem r_tz {f : M (List D)} : dTupZip f env = kTz (f env) := by
  unfold dTupZip kTz
  cases f env with
  | bad => rfl
  | ex c d e => rfl
  | ok ds e =>
    cases ds with
    | nil => rfl
    | cons a r =>
      cases r with
      | nil => rfl
      | cons b r =>
        cases r with
        | cons _ _ => rfl
        | nil =>
          dsimp only
          unfold kTz2
          cases seqD a with
          | none => rfl
          | some as => cases seqD b <;> rfl
def kFor (r : R En (List D)) (h : D → M Unit) (body : M Fl) : R En Fl := match r with
  | .bad => .bad
  | .ok ds e => forL h body ds e
  | .ex c d e => .ex c d e
/-- run -/ theorem r_for {f : M (List D)} {h : D → M Unit} {body : M Fl} : lFor f h body env = kFor (f env) h body := by
  unfold lFor M.bind kFor
  cases f env <;> rfl
/-- run -/ theorem kFor_ok {ds : List D} {h : D → M Unit} {body : M Fl} : kFor (.ok ds e) h body = forL h body ds e := rfl
/-- run -/ theorem kFor_ex {h : D → M Unit} {body : M Fl} : kFor (.ex c d e) h body = .ex c d e := rfl
/-- a turn: the target, the body -/
def turn (h : D → M Unit) (body : M Fl) (d : D) (env : En) : R En Fl := match h d env with
  | .ok _ e => body e
  | .bad => .bad
  | .ex c d e => .ex c d e
def kTurn (r : R En Unit) (body : M Fl) : R En Fl := match r with
  | .ok _ e => body e
  | .bad => .bad
  | .ex c d e => .ex c d e
/-- run -/ theorem r_turn {h : D → M Unit} {body : M Fl} : turn h body d env = kTurn (h d env) body := rfl
/-- run -/ theorem kTurn_ok {u : Unit} {body : M Fl} : kTurn (.ok u e) body = body e := rfl
def kLoop (r : R En Fl) (h : D → M Unit) (body : M Fl) (ds : List D) : R En Fl := match r with
  | .ok .nx e => forL h body ds e
  | .ok .ct e => forL h body ds e
  | .ok .bk e => .ok .nx e
  | .ok (.rt x) e => .ok (.rt x) e
  | .bad => .bad
  | .ex c d e => .ex c d e
/-- run -/ theorem for_nil {h : D → M Unit} {body : M Fl} : forL h body [] env = .ok .nx env := rfl
theorem for_cons {h : D → M Unit} {body : M Fl} {ds : List D} : forL h body (d :: ds) env = kLoop (turn h body d env) h body ds := by
  unfold turn kLoop
  show (match h d env with | .ok _ env1 => _ | .bad => _ | .ex c d env2 => _) = _
  cases h d env with
  | bad => rfl
  | ex c d e => rfl
  | ok u e => dsimp only <;> cases body e <;> first | rfl | (rename_i fl e2; cases fl <;> rfl)
/-- run -/ theorem kLoop_nx {h : D → M Unit} {body : M Fl} {ds : List D} : kLoop (.ok .nx e) h body ds = forL h body ds e := rfl
/-- run -/ theorem kLoop_ct {h : D → M Unit} {body : M Fl} {ds : List D} : kLoop (.ok .ct e) h body ds = forL h body ds e := rfl
/-- run -/ theorem kLoop_bk {h : D → M Unit} {body : M Fl} {ds : List D} : kLoop (.ok .bk e) h body ds = .ok .nx e := rfl
/-- run -/ theorem kLoop_rt {h : D → M Unit} {body : M Fl} {ds : List D} : kLoop (.ok (.rt x) e) h body ds = .ok (.rt x) e := rfl
/-- run -/ theorem kLoop_ex {h : D → M Unit} {body : M Fl} {ds : List D} : kLoop (.ex c d e) h body ds = .ex c d e := rfl
/-! ### comprehensions -/
def kLc2 (r : R En (List D)) (env1 : En) (vs : List Nat) : R En Ent := match r with
  | .ok out e => .ok (.ow (.list out)) (fixE env1 vs e)
  | _ => .bad
/-- run -/ theorem kLc2_ok {out : List D} {env1 : En} {vs : List Nat} : kLc2 (.ok out e) env1 vs = .ok (.ow (.list out)) (fixE env1 vs e) := rfl
def kLc (r : R En (List D)) (h : D → M Unit) (t : M Bool) (f : M D) (vs : List Nat) : R En Ent := match r with
  | .ok ds e => kLc2 (lcL h t f vs ds [] (fixE [] vs e)) e vs
  | .bad => .bad
  | .ex c d e => .ex c d e
/-- run -/ theorem kLc_ok {ds : List D} {h : D → M Unit} {t : M Bool} {f : M D} {vs : List Nat} : kLc (.ok ds e) h t f vs = kLc2 (lcL h t f vs ds [] (fixE [] vs e)) e vs := rfl
/-- run -/ theorem kLc_ex {h : D → M Unit} {t : M Bool} {f : M D} {vs : List Nat} : kLc (.ex c d e) h t f vs = .ex c d e := rfl
/-- run -/ theorem r_lc {it : M (List D)} {h : D → M Unit} {t : M Bool} {f : M D} {vs : List Nat} : dLc it h t f vs env = kLc (it env) h t f vs := by
  unfold dLc kLc
  cases it env with
  | bad => rfl
  | ex c d e => rfl
  | ok ds e =>
    dsimp only
    unfold kLc2
    cases lcL h t f vs ds [] (fixE [] vs e) <;> rfl
def kFx (x : Option Ent) : Ent := match x with
  | some (.fz d) => .fz d
  | _ => .no
/-- run -/ theorem fix_nil {env1 : En} : fixE env1 [] e = e := rfl
/-- run -/ theorem fix_cons {env1 : En} {vs : List Nat} : fixE env1 (i :: vs) e = (fixE env1 vs e).set i (kFx env1[i]?) := rfl
/-- run -/ theorem kFx_none : kFx none = .no := rfl
/-- run -/ theorem kFx_fz : kFx (some (.fz d)) = .fz d := rfl
/-- run -/ theorem kFx_no : kFx (some .no) = .no := rfl
/-- run -/ theorem kFx_ow : kFx (some (.ow d)) = .no := rfl
/-- run -/ theorem kFx_io : kFx (some (.io d)) = .no := rfl
/-- an item of a comprehension: none where the test fails -/
def item (h : D → M Unit) (t : M Bool) (f : M D) (d : D) (env : En) : R En (Option D) := match h d env with
  | .ok _ e1 => (match t e1 with
    | .ok true e2 => (match f e2 with
      | .ok y e3 => .ok (some y) e3
      | _ => .bad)
    | .ok false e2 => .ok none e2
    | _ => .bad)
  | _ => .bad
def kItem3 (r : R En D) : R En (Option D) := match r with
  | .ok y e => .ok (some y) e
  | _ => .bad
/-- run -/ theorem kItem3_ok {y : D} : kItem3 (.ok y e) = .ok (some y) e := rfl
def kItem2 (r : R En Bool) (f : M D) : R En (Option D) := match r with
  | .ok true e => kItem3 (f e)
  | .ok false e => .ok none e
  | _ => .bad
/-- run -/ theorem kItem2_t {f : M D} : kItem2 (.ok true e) f = kItem3 (f e) := rfl
/-- run -/ theorem kItem2_f {f : M D} : kItem2 (.ok false e) f = .ok none e := rfl
def kItem (r : R En Unit) (t : M Bool) (f : M D) : R En (Option D) := match r with
  | .ok _ e => kItem2 (t e) f
  | _ => .bad
/-- run -/ theorem kItem_ok {u : Unit} {t : M Bool} {f : M D} : kItem (.ok u e) t f = kItem2 (t e) f := rfl
/-- run -/ theorem r_item {h : D → M Unit} {t : M Bool} {f : M D} : item h t f d env = kItem (h d env) t f := by
  unfold item kItem
  cases h d env with
  | bad => rfl
  | ex _ _ _ => rfl
  | ok u e =>
    dsimp only
    unfold kItem2
    cases t e with
    | bad => rfl
    | ex _ _ _ => rfl
    | ok b e2 =>
      cases b
      · rfl
      · dsimp only
        unfold kItem3
        cases f e2 <;> rfl
/-- run -/ theorem r_yes : yes env = .ok true env := rfl
def kLcL (r : R En (Option D)) (h : D → M Unit) (t : M Bool) (f : M D) (vs : List Nat) (ds acc : List D) : R En (List D) := match r with
  | .ok (some y) e => lcL h t f vs ds (acc ++ [y]) (fixE [] vs e)
  | .ok none e => lcL h t f vs ds acc (fixE [] vs e)
  | _ => .bad
/-- run -/ theorem lc_nil {h : D → M Unit} {t : M Bool} {f : M D} {vs : List Nat} {acc : List D} : lcL h t f vs [] acc env = .ok acc env := rfl
theorem lc_cons {h : D → M Unit} {t : M Bool} {f : M D} {vs : List Nat} {ds acc : List D} : lcL h t f vs (d :: ds) acc env = kLcL (item h t f d env) h t f vs ds acc := by
  unfold item kLcL
  show (match h d env with | .ok _ env1 => _ | _ => _) = _
  cases h d env with
  | bad => rfl
  | ex _ _ _ => rfl
  | ok u e =>
    dsimp only
    cases t e with
    | bad => rfl
    | ex _ _ _ => rfl
    | ok b e2 =>
      cases b
      · rfl
      · dsimp only
        cases f e2 <;> rfl
/-- run -/ theorem kLcL_some {h : D → M Unit} {t : M Bool} {f : M D} {vs : List Nat} {ds acc : List D} {y : D} : kLcL (.ok (some y) e) h t f vs ds acc = lcL h t f vs ds (acc ++ [y]) (fixE [] vs e) := rfl
/-- run -/ theorem kLcL_none {h : D → M Unit} {t : M Bool} {f : M D} {vs : List Nat} {ds acc : List D} : kLcL (.ok none e) h t f vs ds acc = lcL h t f vs ds acc (fixE [] vs e) := rfl
end
/-! ### loops and comprehensions over typed lists -/
section
variable {S α : Type} {h : D → M Unit} {t : M Bool} {f : M D} {body : M Fl} {vs : List Nat} {enc : α → D}
/-- a loop that goes through, its state told by s -/
theorem for_fold (E : S → En) (step : S → α → S) (I : S → Prop) : ∀ (xs : List α) (s : S), I s → (∀ s, I s → ∀ a ∈ xs, turn h body (enc a) (E s) = .ok .nx (E (step s a)) ∧ I (step s a)) → forL h body (xs.map enc) (E s) = .ok .nx (E (xs.foldl step s)) ∧ I (xs.foldl step s)
  | [], s, hi, _ => ⟨rfl, hi⟩
  | a :: xs, s, hi, hs => by
    obtain ⟨h1, h2⟩ := hs s hi a List.mem_cons_self
    rw [List.map_cons, for_cons, h1, kLoop_nx, List.foldl_cons]
    exact for_fold E step I xs _ h2 fun s hi b hb => hs s hi b (List.mem_cons_of_mem _ hb)
/-- a loop by what holds between its turns: it goes through, or a turn hands back -/
theorem for_rel (P : List α → En → Prop) (X : R En Fl → Prop) : ∀ (pre xs : List α) (e : En), P pre e → (∀ pre' a e, (pre' ++ [a]) <+: (pre ++ xs) → P pre' e → (∃ e', (turn h body (enc a) e = .ok .nx e' ∨ turn h body (enc a) e = .ok .ct e') ∧ P (pre' ++ [a]) e') ∨ (∃ r, (∀ ds, kLoop (turn h body (enc a) e) h body ds = r) ∧ X r)) →
    (∃ e', forL h body (xs.map enc) e = .ok .nx e' ∧ P (pre ++ xs) e') ∨ X (forL h body (xs.map enc) e)
  | pre, [], e, p, _ => .inl ⟨e, rfl, by rw [List.append_nil]; exact p⟩
  | pre, a :: xs, e, p, hs => by
    rw [List.map_cons, for_cons]
    rcases hs pre a e ⟨xs, by simp⟩ p with ⟨e', h1 | h1, h2⟩ | ⟨r, h1, h2⟩
    · rw [h1, kLoop_nx]
      have z := for_rel P X (pre ++ [a]) xs e' h2 fun pre' b e hb => hs pre' b e (by simpa using hb)
      simpa using z
    · rw [h1, kLoop_ct]
      have z := for_rel P X (pre ++ [a]) xs e' h2 fun pre' b e hb => hs pre' b e (by simpa using hb)
      simpa using z
    · exact .inr (by rw [h1]; exact h2)
/-- a comprehension whose turns leave the slots as they are -/
theorem lc_map (g : α → D) {E : En} : ∀ (xs : List α) (acc : List D), (∀ a ∈ xs, ∃ e, item h t f (enc a) E = .ok (some (g a)) e ∧ fixE [] vs e = E) → lcL h t f vs (xs.map enc) acc E = .ok (acc ++ xs.map g) E
  | [], acc, _ => by rw [List.map_nil, List.map_nil, List.append_nil]; rfl
  | a :: xs, acc, hs => by
    obtain ⟨e, h1, h2⟩ := hs a List.mem_cons_self
    rw [List.map_cons, lc_cons, h1, kLcL_some, h2, lc_map g xs (acc ++ [g a]) fun b hb => hs b (List.mem_cons_of_mem _ hb), List.map_cons, List.append_assoc, List.singleton_append]
theorem lc_fmap (g : α → Option D) {E : En} : ∀ (xs : List α) (acc : List D), (∀ a ∈ xs, ∃ e, item h t f (enc a) E = .ok (g a) e ∧ fixE [] vs e = E) → lcL h t f vs (xs.map enc) acc E = .ok (acc ++ xs.filterMap g) E
  | [], acc, _ => by rw [List.map_nil, List.filterMap_nil, List.append_nil]; rfl
  | a :: xs, acc, hs => by
    obtain ⟨e, h1, h2⟩ := hs a List.mem_cons_self
    have z := fun acc => lc_fmap g (E := E) xs acc fun b hb => hs b (List.mem_cons_of_mem _ hb)
    rw [List.map_cons, lc_cons, h1, List.filterMap_cons]
    cases g a with
    | none => rw [kLcL_none, h2, z]
    | some y => rw [kLcL_some, h2, z, List.append_assoc, List.singleton_append]
/-- a comprehension whose turns change the state told by s -/
theorem lc_fold (E : S → En) (step : S → α → S × D) (I : S → Prop) : ∀ (xs : List α) (s : S) (acc : List D), I s → (∀ s, I s → ∀ a ∈ xs, ∃ e, item h t f (enc a) (E s) = .ok (some (step s a).2) e ∧ fixE [] vs e = E (step s a).1 ∧ I (step s a).1) →
    ∃ s' out, lcL h t f vs (xs.map enc) acc (E s) = .ok (acc ++ out) (E s') ∧ I s' ∧ out.length = xs.length
  | [], s, acc, hi, _ => ⟨s, [], by rw [List.append_nil]; rfl, hi, rfl⟩
  | a :: xs, s, acc, hi, hs => by
    obtain ⟨e, h1, h2, h3⟩ := hs s hi a List.mem_cons_self
    obtain ⟨s', out, z1, z2, z3⟩ := lc_fold E step I xs _ (acc ++ [(step s a).2]) h3 fun s hi b hb => hs s hi b (List.mem_cons_of_mem _ hb)
    refine ⟨s', (step s a).2 :: out, ?_, z2, by rw [List.length_cons, List.length_cons, z3]⟩
    rw [List.map_cons, lc_cons, h1, kLcL_some, h2, z1, List.append_assoc, List.singleton_append]
/-- .. what is made told by a relation -/
theorem lc_rel (P : En → Prop) (G : α → D → Prop) : ∀ (xs : List α) (e : En) (acc : List D), P e → (∀ e, P e → ∀ a ∈ xs, ∃ e' y, item h t f (enc a) e = .ok (some y) e' ∧ P (fixE [] vs e') ∧ G a y) →
    ∃ e' out, lcL h t f vs (xs.map enc) acc e = .ok (acc ++ out) e' ∧ P e' ∧ out.length = xs.length ∧ ∀ i (hi : i < xs.length) (ho : i < out.length), G xs[i] out[i]
  | [], e, acc, p, _ => ⟨e, [], by rw [List.append_nil]; rfl, p, rfl, fun i hi => absurd hi (Nat.not_lt_zero i)⟩
  | a :: xs, e, acc, p, hs => by
    obtain ⟨e', y, h1, h2, h3⟩ := hs e p a List.mem_cons_self
    obtain ⟨e2, out, z1, z2, z3, z4⟩ := lc_rel P G xs _ (acc ++ [y]) h2 fun e p b hb => hs e p b (List.mem_cons_of_mem _ hb)
    refine ⟨e2, y :: out, ?_, z2, by rw [List.length_cons, List.length_cons, z3], fun i hi ho => ?_⟩
    · rw [List.map_cons, lc_cons, h1, kLcL_some, z1, List.append_assoc, List.singleton_append]
    · cases i with
      | zero => exact h3
      | succ i => exact z4 i (by simpa using hi) (by simpa using ho)
end
end DL
end
section
set_option maxRecDepth 100000
set_option maxHeartbeats 1000000
set_option exponentiation.threshold 1000
/-! DL41: what the operations give on plain values, as rewriting -/
namespace DL
open PySem PySem.Spec L2
open PyProof.Rows hiding St
section
variable {α β : Type}
/-! ### lists -/
/-- run -/ theorem l_get0 (a : α) (l : List α) : (a :: l)[0]? = some a := rfl
/-- run -/ theorem l_getS (a : α) (l : List α) (n : Nat) : (a :: l)[n + 1]? = l[n]? := rfl
/-- run -/ theorem l_getN (n : Nat) : ([] : List α)[n]? = none := rfl
/-- run -/ theorem l_set0 (a b : α) (l : List α) : (a :: l).set 0 b = b :: l := rfl
/-- run -/ theorem l_setS (a b : α) (l : List α) (n : Nat) : (a :: l).set (n + 1) b = a :: l.set n b := rfl
/-- run -/ theorem l_rep0 (a : α) : List.replicate 0 a = [] := rfl
/-- run -/ theorem l_repS (a : α) (n : Nat) : List.replicate (n + 1) a = a :: List.replicate n a := rfl
/-- run -/ theorem l_app (a : α) (l m : List α) : (a :: l) ++ m = a :: (l ++ m) := rfl
/-- run -/ theorem l_app0 (m : List α) : [] ++ m = m := rfl
/-- run -/ theorem l_appN (m : List α) : m ++ [] = m := List.append_nil m
/-- run -/ theorem l_lenN : ([] : List α).length = 0 := rfl
/-- run -/ theorem l_lenS (a : α) (l : List α) : (a :: l).length = l.length + 1 := rfl
/-- run -/ theorem l_lenM (f : α → β) (l : List α) : (l.map f).length = l.length := List.length_map ..
/-- run -/ theorem l_lenA (l m : List α) : (l ++ m).length = l.length + m.length := List.length_append
/-- run -/ theorem l_lenR (n : Nat) (a : α) : (List.replicate n a).length = n := List.length_replicate
/-- run -/ theorem l_cat0 : ((0 : Nat) : Int) = 0 := rfl
/-- run -/ theorem l_cat1 : ((1 : Nat) : Int) = 1 := rfl
/-- run -/ theorem setEn_c (i : Nat) (is : List Nat) (x : Ent) (xs : List Ent) (e : En) : setEn (i :: is) (x :: xs) e = setEn is xs (e.set i x) := rfl
/-- run -/ theorem setEn_n (e : En) : setEn [] [] e = e := rfl
/-! ### truth values -/
/-- run -/ theorem b_dT (i : Decidable True) : @decide True i = true := decide_eq_true trivial
/-- run -/ theorem b_dF (i : Decidable False) : @decide False i = false := decide_eq_false id
/-- run -/ theorem b_nt : (!true) = false := rfl
/-- run -/ theorem b_nf : (!false) = true := rfl
/-- run -/ theorem b_nn (b : Bool) : (!!b) = b := Bool.not_not b
/-- run -/ theorem b_at (b : Bool) : (true && b) = b := rfl
/-- run -/ theorem b_af (b : Bool) : (false && b) = false := rfl
/-- run -/ theorem b_ta (b : Bool) : (b && true) = b := Bool.and_true b
/-- run -/ theorem b_fa (b : Bool) : (b && false) = false := Bool.and_false b
/-- run -/ theorem b_ot (b : Bool) : (true || b) = true := rfl
/-- run -/ theorem b_of (b : Bool) : (false || b) = b := rfl
/-- run -/ theorem b_to (b : Bool) : (b || true) = true := Bool.or_true b
/-- run -/ theorem b_fo (b : Bool) : (b || false) = b := Bool.or_false b
/-- run -/ theorem b_tt : (true = true) = True := eq_self _
/-- run -/ theorem b_ff : (false = false) = True := eq_self _
/-- run -/ theorem b_tf : (true = false) = False := by simp
/-- run -/ theorem b_ft : (false = true) = False := by simp
/-- run -/ theorem b_nT : (¬ True) = False := by simp
/-- run -/ theorem b_nF : (¬ False) = True := by simp
/-- run -/ theorem b_iT (a b : α) : (if True then a else b) = a := if_pos trivial
/-- run -/ theorem b_iF (a b : α) : (if False then a else b) = b := if_neg id
/-- run -/ theorem kIf_not {b : Bool} {e : En} {f g : M α} : kIf (.ok (!b) e) f g = kIf (.ok b e) g f := by cases b <;> rfl
/-- run -/ theorem kAndT_not {b : Bool} {e : En} {g : M Bool} (h : b = false) : kAndT (.ok (!b) e) g = g e := by subst h; rfl
/-! ### whole numbers -/
/-- run -/ theorem add_i (a b : Int) : addD (.int a) (.int b) = some (.fz (.int (a + b))) := rfl
/-- run -/ theorem sub_i (a b : Int) : subD (.int a) (.int b) = some (.fz (.int (a - b))) := rfl
/-- run -/ theorem mul_r {a b : Int} (h1 : -18446744073709551616 < b) (h2 : b < 18446744073709551616) : mulD (.int a) (.int b) = some (.fz (.int (a * b))) := by
  show (if okMul a b then _ else _) = _
  rw [if_pos]
  unfold okMul
  rw [decide_eq_true (show b.natAbs < 2 ^ 64 by omega)]
  simp
/-- run -/ theorem mul_l {a b : Int} (h1 : -18446744073709551616 < a) (h2 : a < 18446744073709551616) : mulD (.int a) (.int b) = some (.fz (.int (a * b))) := by
  show (if okMul a b then _ else _) = _
  rw [if_pos]
  unfold okMul
  rw [decide_eq_true (show a.natAbs < 2 ^ 64 by omega)]
  simp
/-- run -/ theorem mul_w {a b : Int} (h1 : -1000000000000000000000000000000000000000000000000000000000000000 < a) (h2 : a < 1000000000000000000000000000000000000000000000000000000000000000) (h3 : -1000000000000000000000000000000000000000000000000000000000000000 < b) (h4 : b < 1000000000000000000000000000000000000000000000000000000000000000) : mulD (.int a) (.int b) = some (.fz (.int (a * b))) := by
  show (if okMul a b then _ else _) = _
  rw [if_pos]
  unfold okMul
  have k1 : a.natAbs < 2 ^ 512 := by omega
  have k2 : b.natAbs < 2 ^ 512 := by omega
  rw [decide_eq_true k1, decide_eq_true k2]
  simp
/-- run -/ theorem fdiv_i {a b : Int} (h : 0 < b) (h2 : b < 1000000000000000000000000000000000000000000000000000000000000000) : fdivD (.int a) (.int b) = some (.fz (.int (a / b))) := by
  show (if (decide (0 < b) && decide (b.natAbs < 2 ^ 512)) then _ else _) = _
  rw [if_pos]
  rw [Bool.and_eq_true]
  exact ⟨decide_eq_true h, decide_eq_true (by omega)⟩
/-- run -/ theorem mod_i {a b : Int} (h : 0 < b) : modD (.int a) (.int b) = some (.fz (.int (a % b))) := by
  show (if decide (0 < b) then _ else _) = _
  rw [if_pos (decide_eq_true h)]
theorem okPow_i {i j : Int} (h : 0 ≤ j) (h2 : j ≤ 1000) (h3 : -18446744073709551616 < i) (h4 : i < 18446744073709551616) : okPow i j = true := by
  unfold okPow
  rw [decide_eq_true h, decide_eq_true h2, decide_eq_true (show i.natAbs < 2 ^ 64 by omega)]
  rfl
/-- run -/ theorem pow_i {i j : Int} (h : 0 ≤ j) (h2 : j ≤ 1000) (h3 : -18446744073709551616 < i) (h4 : i < 18446744073709551616) : powD (.int i) (.int j) = some (.fz (.int (i ^ j.toNat))) := by
  show (if okPow i j then _ else _) = _
  rw [if_pos (okPow_i h h2 h3 h4)]
/-- run -/ theorem shl_i {i j : Int} (h : 0 ≤ j) (h2 : j ≤ 1000) (h3 : -18446744073709551616 < i) (h4 : i < 18446744073709551616) : shlD (.int i) (.int j) = some (.fz (.int (i * 2 ^ j.toNat))) := by
  show (if okPow i j then _ else _) = _
  rw [if_pos (okPow_i h h2 h3 h4)]
/-- run -/ theorem shr_i {i j : Int} (h : 0 ≤ j) : shrD (.int i) (.int j) = some (.fz (.int (i / 2 ^ j.toNat))) := by
  show (if decide (0 ≤ j) then _ else _) = _
  rw [if_pos (decide_eq_true h)]
/-- run -/ theorem and_i (a b : Int) : andD (.int a) (.int b) = some (.fz (.int (Builtin.bitAnd a b))) := rfl
/-- run -/ theorem lt_i (a b : Int) : ltD (.int a) (.int b) = some (.fz (.bool (decide (a < b)))) := ltD_int a b
/-- run -/ theorem gt_i (a b : Int) : gtD (.int a) (.int b) = some (.fz (.bool (decide (b < a)))) := gtD_int a b
/-- run -/ theorem le_i (a b : Int) : leD (.int a) (.int b) = some (.fz (.bool (decide (a ≤ b)))) := by
  rw [leD_int]
  by_cases h : b < a
  · rw [decide_eq_true h, decide_eq_false (by omega)]; rfl
  · rw [decide_eq_false h, decide_eq_true (by omega)]; rfl
/-- run -/ theorem ge_i (a b : Int) : geD (.int a) (.int b) = some (.fz (.bool (decide (b ≤ a)))) := by
  rw [geD_int]
  by_cases h : a < b
  · rw [decide_eq_true h, decide_eq_false (by omega)]; rfl
  · rw [decide_eq_false h, decide_eq_true (by omega)]; rfl
theorem okDp0 (a b : D) (h : a.depth = 0) : okDp a b = true := by
  unfold okDp
  rw [h]
  simp
theorem okDp_l {a b : D} (h : a.depth ≤ 64) : okDp a b = true := by
  unfold okDp
  exact decide_eq_true (by omega)
theorem okDp_r {a b : D} (h : b.depth ≤ 64) : okDp a b = true := by
  unfold okDp
  exact decide_eq_true (by omega)
/-- run -/ theorem eq_i (a b : Int) : eqD (.int a) (.int b) = some (.fz (.bool (decide (a = b)))) := by
  unfold eqD
  rw [if_pos (okDp0 _ _ rfl), show PyData.eqv (.int a) (.int b) = decide (a = b) by
    by_cases h : a = b <;> simp [PyData.eqv, h]]
/-- run -/ theorem eq_s (a b : Str) : eqD (.str a) (.str b) = some (.fz (.bool (decide (a = b)))) := by
  unfold eqD
  rw [if_pos (okDp0 _ _ rfl), show PyData.eqv (.str a) (.str b) = decide (a = b) by
    by_cases h : a = b <;> simp [PyData.eqv, h]]
/-- run -/ theorem eq_b (a b : Bool) : eqD (.bool a) (.bool b) = some (.fz (.bool ((a == b)))) := by
  unfold eqD
  rw [if_pos (okDp0 _ _ rfl)]
  simp [PyData.eqv]
/-- run -/ theorem ne_i (a b : Int) : neD (.int a) (.int b) = some (.fz (.bool (!decide (a = b)))) := by
  unfold neD
  rw [if_pos (okDp0 _ _ rfl), show PyData.eqv (.int a) (.int b) = decide (a = b) by
    by_cases h : a = b <;> simp [PyData.eqv, h]]
/-- run -/ theorem ne_s (a b : Str) : neD (.str a) (.str b) = some (.fz (.bool (!decide (a = b)))) := by
  unfold neD
  rw [if_pos (okDp0 _ _ rfl), show PyData.eqv (.str a) (.str b) = decide (a = b) by
    by_cases h : a = b <;> simp [PyData.eqv, h]]
/-- run -/ theorem ne_b (a b : Bool) : neD (.bool a) (.bool b) = some (.fz (.bool (!(a == b)))) := by
  unfold neD
  rw [if_pos (okDp0 _ _ rfl)]
  simp [PyData.eqv]
/-- run -/ theorem is_non (d : D) : isD d .none = some (.fz (.bool (isNone d))) := rfl
/-- run -/ theorem isnt_non (d : D) : isNotD d .none = some (.fz (.bool (!isNone d))) := rfl
/-- run -/ theorem iN_n : isNone .none = true := rfl
/-- run -/ theorem iN_b (b : Bool) : isNone (.bool b) = false := rfl
/-- run -/ theorem iN_i (b : Int) : isNone (.int b) = false := rfl
/-- run -/ theorem iN_s (b : Str) : isNone (.str b) = false := rfl
/-- run -/ theorem iN_t (b : List D) : isNone (.tuple b) = false := rfl
/-- run -/ theorem iN_l (b : List D) : isNone (.list b) = false := rfl
/-! ### built-ins -/
/-- run -/ theorem len_l (xs : List D) : lenF [.list xs] = some (.fz (.int xs.length)) := rfl
/-- run -/ theorem len_t (xs : List D) : lenF [.tuple xs] = some (.fz (.int xs.length)) := rfl
/-- run -/ theorem len_s (x : Str) : lenF [.str x] = some (.fz (.int x.length)) := rfl
/-- run -/ theorem int_i (i : Int) : intF [.int i] = some (.fz (.int i)) := rfl
/-- run -/ theorem int_b (b : Bool) : intF [.bool b] = some (.fz (.int (if b then 1 else 0))) := rfl
/-- run -/ theorem abs_i (i : Int) : absF [.int i] = some (.fz (.int (if i < 0 then -i else i))) := rfl
/-- run -/ theorem tup_l (xs : List D) : tupleF [.list xs] = some (.fz (.tuple xs)) := rfl
/-- run -/ theorem tup_t (xs : List D) : tupleF [.tuple xs] = some (.fz (.tuple xs)) := rfl
/-- run -/ theorem lst_l (xs : List D) : listF [.list xs] = some (.ow (.list xs)) := rfl
/-- run -/ theorem lst_t (xs : List D) : listF [.tuple xs] = some (.ow (.list xs)) := rfl
/-- run -/ theorem max_i (i j : Int) : max2F [.int i, .int j] = some (.fz (.int (max i j))) := by
  show some (Ent.fz (.int (if j > i then j else i))) = _
  rw [show (if j > i then j else i) = max i j by split <;> omega]
/-- run -/ theorem min_i (i j : Int) : min2F [.int i, .int j] = some (.fz (.int (min i j))) := by
  show some (Ent.fz (.int (if j < i then j else i))) = _
  rw [show (if j < i then j else i) = min i j by split <;> omega]
theorem boolsOf_map (bs : List Bool) : boolsOf (bs.map PyData.bool) = some bs := by
  induction bs with
  | nil => rfl
  | cons b r ih =>
    show (boolsOf (r.map PyData.bool)).map (b :: ·) = _
    rw [ih]
    rfl
/-- run -/ theorem all_b (f : α → Bool) (xs : List α) : allF [.list (xs.map fun a => .bool (f a))] = some (.fz (.bool (xs.all f))) := by
  have e : (xs.map fun a => PyData.bool (f a)) = (xs.map f).map PyData.bool := by rw [List.map_map]; rfl
  show (boolsOf (xs.map fun a => PyData.bool (f a))).map _ = _
  rw [e, boolsOf_map]
  simp
/-- run -/ theorem any_b (f : α → Bool) (xs : List α) : anyF [.list (xs.map fun a => .bool (f a))] = some (.fz (.bool (xs.any f))) := by
  have e : (xs.map fun a => PyData.bool (f a)) = (xs.map f).map PyData.bool := by rw [List.map_map]; rfl
  show (boolsOf (xs.map fun a => PyData.bool (f a))).map _ = _
  rw [e, boolsOf_map]
  simp
theorem intsOf_map (bs : List Int) : intsOf (bs.map PyData.int) = some bs := by
  induction bs with
  | nil => rfl
  | cons b r ih =>
    show (intsOf (r.map PyData.int)).map (b :: ·) = _
    rw [ih]
    rfl
/-! ### kinds -/
/-- run -/ theorem isi_bb (b : Bool) : isD1 "bool" (.bool b) = true := rfl
/-- run -/ theorem isi_bi (b : Int) : isD1 "bool" (.int b) = false := rfl
/-- run -/ theorem isi_bs (b : Str) : isD1 "bool" (.str b) = false := rfl
/-- run -/ theorem isi_bn : isD1 "bool" .none = false := rfl
/-- run -/ theorem isi_bt (b : List D) : isD1 "bool" (.tuple b) = false := rfl
/-- run -/ theorem isi_bl (b : List D) : isD1 "bool" (.list b) = false := rfl
/-- run -/ theorem isi_ib (b : Bool) : isD1 "int" (.bool b) = true := rfl
/-- run -/ theorem isi_ii (b : Int) : isD1 "int" (.int b) = true := rfl
/-- run -/ theorem isi_is (b : Str) : isD1 "int" (.str b) = false := rfl
/-- run -/ theorem isi_in : isD1 "int" .none = false := rfl
/-- run -/ theorem isi_it (b : List D) : isD1 "int" (.tuple b) = false := rfl
/-- run -/ theorem isi_il (b : List D) : isD1 "int" (.list b) = false := rfl
/-- run -/ theorem isi_sb (b : Bool) : isD1 "str" (.bool b) = false := rfl
/-- run -/ theorem isi_si (b : Int) : isD1 "str" (.int b) = false := rfl
/-- run -/ theorem isi_ss (b : Str) : isD1 "str" (.str b) = true := rfl
/-- run -/ theorem isi_sn : isD1 "str" .none = false := rfl
/-- run -/ theorem isi_st (b : List D) : isD1 "str" (.tuple b) = false := rfl
/-- run -/ theorem isi_sl (b : List D) : isD1 "str" (.list b) = false := rfl
/-- run -/ theorem isi_tb (b : Bool) : isD1 "tuple" (.bool b) = false := rfl
/-- run -/ theorem isi_ti (b : Int) : isD1 "tuple" (.int b) = false := rfl
/-- run -/ theorem isi_ts (b : Str) : isD1 "tuple" (.str b) = false := rfl
/-- run -/ theorem isi_tn : isD1 "tuple" .none = false := rfl
/-- run -/ theorem isi_tt (b : List D) : isD1 "tuple" (.tuple b) = true := rfl
/-- run -/ theorem isi_tl (b : List D) : isD1 "tuple" (.list b) = false := rfl
/-- run -/ theorem isi_lb (b : Bool) : isD1 "list" (.bool b) = false := rfl
/-- run -/ theorem isi_li (b : Int) : isD1 "list" (.int b) = false := rfl
/-- run -/ theorem isi_ls (b : Str) : isD1 "list" (.str b) = false := rfl
/-- run -/ theorem isi_ln : isD1 "list" .none = false := rfl
/-- run -/ theorem isi_lt (b : List D) : isD1 "list" (.tuple b) = false := rfl
/-- run -/ theorem isi_ll (b : List D) : isD1 "list" (.list b) = true := rfl
/-- run -/ theorem tyD_s (b : Str) : tyD (.str b) = some "str" := rfl
/-- run -/ theorem tyD_t (b : List D) : tyD (.tuple b) = some "tuple" := rfl
/-- run -/ theorem tyD_l (b : List D) : tyD (.list b) = some "list" := rfl
/-- run -/ theorem tyD_i (b : Int) : tyD (.int b) = some "int" := rfl
/-! ### items -/
def kIx (x : Option D) : Option Ent := x.map .fz
/-- run -/ theorem kIx_s (d : D) : kIx (some d) = some (.fz d) := rfl
/-- run -/ theorem ix_l (xs : List D) (i : Int) : ixD (.list xs) (.int i) = kIx (atI xs i) := rfl
/-- run -/ theorem ix_t (xs : List D) (i : Int) : ixD (.tuple xs) (.int i) = kIx (atI xs i) := rfl
theorem atI_get {xs : List α} {i : Int} {a : α} (h0 : 0 ≤ i) (h : xs[i.toNat]? = some a) : atI xs i = some a := by
  have hl := (List.getElem?_eq_some_iff.mp h).1
  unfold atI
  have e : ixN xs.length i = some i.toNat := by
    unfold ixN
    rw [if_pos h0, if_pos (by omega)]
  rw [e]
  exact h
/-- run -/ theorem at_0 (a : α) (l : List α) : atI (a :: l) 0 = some a := atI_get (by decide) rfl
/-- run -/ theorem at_1 (a b : α) (l : List α) : atI (a :: b :: l) 1 = some b := atI_get (by decide) rfl
/-- run -/ theorem at_2 (a b c : α) (l : List α) : atI (a :: b :: c :: l) 2 = some c := atI_get (by decide) rfl
/-- run -/ theorem at_3 (a b c d : α) (l : List α) : atI (a :: b :: c :: d :: l) 3 = some d := atI_get (by decide) rfl
/-- run -/ theorem at_4 (a b c d e : α) (l : List α) : atI (a :: b :: c :: d :: e :: l) 4 = some e := atI_get (by decide) rfl
theorem atI_lt (xs : List α) {i : Int} (h0 : 0 ≤ i) (h1 : i < xs.length) : atI xs i = some (xs[i.toNat]'(by omega)) := atI_get h0 (List.getElem?_eq_getElem (by omega))
/-- run -/ theorem ixN_lt {n : Nat} {i : Int} (h0 : 0 ≤ i) (h1 : i < n) : ixN n i = some i.toNat := by
  unfold ixN
  rw [if_pos h0, if_pos h1]
/-- run -/ theorem app_F (xs : List D) (y : D) (h : xs.length + 1 ≤ 16777216) : appendF xs [y] = some (.none, xs ++ [y]) := if_pos (decide_eq_true h)
/-- run -/ theorem ext_F (xs ys : List D) (h : xs.length + ys.length ≤ 16777216) : extendF xs [.list ys] = some (.none, xs ++ ys) := if_pos (decide_eq_true h)
/-- run -/ theorem add_l (xs ys : List D) (h : xs.length + ys.length ≤ 16777216) : addD (.list xs) (.list ys) = some (.ow (.list (xs ++ ys))) := if_pos (decide_eq_true h)
/-- run -/ theorem add_t (xs ys : List D) (h : xs.length + ys.length ≤ 16777216) : addD (.tuple xs) (.tuple ys) = some (.fz (.tuple (xs ++ ys))) := if_pos (decide_eq_true h)
theorem ups_map (lo : Int) (n : Nat) : ups lo n = (List.range n).map fun (i : Nat) => .int (lo + (i : Int)) := rfl
/-- run -/ theorem sl_l (xs : List D) (lo hi : Option Int) : slD (.list xs) lo hi = some (.ow (.list (cutD xs lo hi))) := rfl
/-- run -/ theorem sl_t (xs : List D) (lo hi : Option Int) : slD (.tuple xs) lo hi = some (.fz (.tuple (cutD xs lo hi))) := rfl
end
end DL
end
section
set_option maxRecDepth 100000
set_option maxHeartbeats 1000000
/-! DL42: sorted by its outcome -/
namespace DL
open PySem PySem.Spec L2
open PyProof.Rows hiding St
theorem dle_eq (a b : D) : dle a b = !PySem.W.dataLt b a := rfl
theorem dle_trans (a b c : D) (h1 : dle a b = true) (h2 : dle b c = true) : dle a c = true := (PySem.W.sortLe_total (PyProof.Rows.listOrd PyProof.Rows.itemOrd) false fun d : D => PySem.W.keyToks d).trans a b c h1 h2
theorem dle_total (a b : D) : (dle a b || dle b a) = true := by
  have h := (PySem.W.sortLe_total (PyProof.Rows.listOrd PyProof.Rows.itemOrd) false fun d : D => PySem.W.keyToks d).total a b
  first | exact h | exact Bool.or_eq_true_iff.mpr h
/-- what is in its turns already, strictly, is what sorting gives -/
theorem sort_is {xs ys : List D} (p : ys.Perm xs) (s : ys.Pairwise fun a b => PySem.W.dataLt a b = true) : xs.mergeSort dle = ys := by
  have lt : ∀ a b : D, PySem.W.dataLt a b = true → dle b a = false := fun a b h => by rw [dle_eq, h]; rfl
  have anti : ∀ a b, a ∈ ys → b ∈ ys → dle a b = true → dle b a = true → a = b := by
    clear p
    induction s with
    | nil => intro a b h; cases h
    | cons h t ih =>
      rename_i y l
      intro a b ha hb h1 h2
      rcases List.mem_cons.mp ha with ea | ha
      · rcases List.mem_cons.mp hb with eb | hb
        · rw [ea, eb]
        · rw [ea, lt _ _ (h b hb)] at h2; cases h2
      · rcases List.mem_cons.mp hb with eb | hb
        · rw [eb, lt _ _ (h a ha)] at h1; cases h1
        · exact ih a b ha hb h1 h2
  have sle : ys.Pairwise fun a b => dle a b = true := s.imp fun {a b} h => by
    have z := dle_total a b
    rw [lt a b h, Bool.or_false] at z
    exact z
  refine List.Perm.eq_of_pairwise (le := fun a b => dle a b = true) (fun a b ha hb h1 h2 => anti a b ?_ hb h1 h2) (List.pairwise_mergeSort dle_trans dle_total xs) sle ((List.mergeSort_perm xs dle).trans p.symm)
  exact p.mem_iff.mpr ((List.mergeSort_perm xs dle).mem_iff.mp ha)
/-! .. checked by running -/
def rem1 (x : D) : List D → Option (List D)
  | [] => none
  | y :: ys => if same x y then some ys else (rem1 x ys).map (y :: ·)
def permB : List D → List D → Bool
  | [], ys => ys.isEmpty
  | x :: xs, ys => match rem1 x ys with
    | some zs => permB xs zs
    | none => false
theorem rem1_ok {x : D} : ∀ {ys zs : List D}, rem1 x ys = some zs → ys.Perm (x :: zs)
  | [], _, h => by cases h
  | y :: ys, zs, h => by
    unfold rem1 at h
    by_cases c : same x y = true
    · rw [if_pos c] at h
      cases h
      rw [same_ok c]
    · rw [if_neg c] at h
      obtain ⟨ws, h1, rfl⟩ := Option.map_eq_some_iff.mp h
      exact ((rem1_ok h1).cons y).trans (List.Perm.swap x y ws)
theorem permB_ok : ∀ {xs ys : List D}, permB xs ys = true → ys.Perm xs
  | [], ys, h => by
    have h : ys.isEmpty = true := h
    rw [List.isEmpty_iff.mp h]
  | x :: xs, ys, h => by
    unfold permB at h
    cases q : rem1 x ys with
    | none => rw [q] at h; cases h
    | some zs =>
      rw [q] at h
      exact (rem1_ok q).trans ((permB_ok h).cons x)
def risB : List D → Bool
  | [] => true
  | x :: xs => xs.all (fun y => PySem.W.dataLt x y) && risB xs
theorem risB_ok : ∀ {xs : List D}, risB xs = true → xs.Pairwise fun a b => PySem.W.dataLt a b = true
  | [], _ => .nil
  | x :: xs, h => by
    have h : (xs.all (fun y => PySem.W.dataLt x y) && risB xs) = true := h
    rw [Bool.and_eq_true, List.all_eq_true] at h
    exact .cons h.1 (risB_ok h.2)
theorem sortedF_is {xs ys : List D} (h : (sortable xs && (permB xs ys && risB ys)) = true) : sortedF [.list xs] = some (.ow (.list ys)) := by
  rw [Bool.and_eq_true, Bool.and_eq_true] at h
  show (if sortable xs then _ else _) = _
  rw [if_pos h.1, sort_is (permB_ok h.2.1) (risB_ok h.2.2)]
end DL
end
section
set_option maxRecDepth 100000
set_option maxHeartbeats 1000000
/-! DL43: texts joined and split -/
namespace DL
open PySem PySem.Spec L2
open PyProof.Rows hiding St
open TL
theorem allStr_map : ∀ xs : List Str, allStr (xs.map PyData.str) = some xs
  | [] => rfl
  | x :: xs => by
    show (allStr (xs.map PyData.str)).map (x :: ·) = _
    rw [allStr_map xs]
    rfl
theorem okS_join {a : Str} {xs : List Str} (h : (xs.map (·.length)).sum + xs.length * a.length ≤ 16777216) (h2 : Lo a) (h3 : ∀ x ∈ xs, Lo x) : okS (Txt.join a xs) = true := by
  unfold okS
  rw [join_eq, Bool.and_eq_true]
  refine ⟨?_, strOk_lo.mpr (join_lo h2 h3)⟩
  unfold fits
  exact decide_eq_true (Nat.le_trans (StrLaws.join_length_le a xs) h)
theorem joinF_ok {a : Str} {xs : List Str} (h : (xs.map (·.length)).sum + xs.length * a.length ≤ 16777216) (h2 : Lo a) (h3 : ∀ x ∈ xs, Lo x) : joinF (.str a) [.list (xs.map PyData.str)] = some (.fz (.str (Txt.join a xs))) := by
  show (match allStr (xs.map PyData.str) with | some xs => _ | none => _) = _
  rw [allStr_map]
  show (if fits ((xs.map (·.length)).sum + xs.length * a.length) then oStr (Txt.join a xs) else none) = _
  rw [if_pos (show fits _ = true from decide_eq_true h)]
  unfold oStr
  rw [if_pos (okS_join h h2 h3)]
/-- a text joined by " ; " whose parts have no ';' -/
theorem spl_semi : ∀ {parts : List (List Nat)}, parts ≠ [] → (∀ p ∈ parts, 59 ∉ p) → spl [32, 59, 32] 0 [] (joinL [32, 59, 32] parts) = parts := by
  have free : ∀ {p q : List Nat}, 59 ∉ p → (q = [] ∨ ∃ r, q = [32, 59, 32] ++ r) → ∀ i, i < p.length → pre [32, 59, 32] ((p ++ q).drop i) = false := fun {p q} hp hq i hi => by
    have e0 : (p ++ q).drop i = p[i] :: (p.drop (i + 1) ++ q) := by
      rw [List.drop_append_of_le_length (by omega), List.drop_eq_getElem_cons hi]; rfl
    rw [e0]
    cases e : p.drop (i + 1) with
    | nil =>
      rcases hq with rfl | ⟨r, rfl⟩
      · simp [pre]
      · simp [pre]
    | cons c r =>
      have : c ∈ p := List.mem_of_mem_drop (by rw [e]; exact List.mem_cons_self)
      have hc : c ≠ 59 := fun z => hp (z ▸ this)
      simp [pre]
      intro _ z
      first | exact absurd z hc | exact absurd z.symm hc | skip
  intro parts
  induction parts with
  | nil => intro h; exact absurd rfl h
  | cons p ps ih =>
    intro _ hp
    cases ps with
    | nil =>
      show spl [32, 59, 32] 0 [] p = [p]
      rw [spl_last fun i hi => ?_, List.nil_append]
      have z := free (q := []) (hp p List.mem_cons_self) (.inl rfl) i hi
      rwa [List.append_nil] at z
    | cons q r =>
      show spl [32, 59, 32] 0 [] (p ++ ([32, 59, 32] ++ joinL [32, 59, 32] (q :: r))) = p :: q :: r
      rw [spl_part (by simp) (free (hp p List.mem_cons_self) (.inr ⟨_, rfl⟩)), List.nil_append, ih (by simp) fun z hz => hp z (List.mem_cons_of_mem _ hz)]
def semi : Str := " ; "
theorem split_semi {parts : List Str} (hne : parts ≠ []) (hp : ∀ p ∈ parts, 59 ∉ p.cps.toList) : Txt.split (Txt.join semi parts) semi = parts := by
  have ey : tl semi = [32, 59, 32] := by decide +kernel
  have hk : semi.cps.all (· < 256) = true := by decide +kernel
  refine map_tl_inj ?_
  rw [split_spl _ semi (by rw [ey]; simp) (kind_ok hk), join_eq, tl_join, ey]
  refine spl_semi (fun e => hne (List.map_eq_nil_iff.mp e)) fun p h => ?_
  obtain ⟨z, hz, rfl⟩ := List.mem_map.mp h
  exact hp z hz
theorem le_sum : ∀ {parts : List Str} (p : Str), p ∈ parts → p.length ≤ (parts.map (·.length)).sum
  | [], p, h => nomatch h
  | q :: r, p, h => by
    rw [List.map_cons, List.sum_cons]
    rcases List.mem_cons.mp h with rfl | h
    · omega
    · have := le_sum p h
      omega
theorem splitF_semi {parts : List Str} (hne : parts ≠ []) (hp : ∀ p ∈ parts, 59 ∉ p.cps.toList) (h : (parts.map (·.length)).sum + parts.length * 3 ≤ 16777214) (h3 : ∀ x ∈ parts, Lo x) : splitF (.str (Txt.join semi parts)) [.str semi] = some (.ow (.list (parts.map PyData.str))) := by
  have e3 : semi.length = 3 := by decide +kernel
  have hl := StrLaws.join_length_le semi parts
  rw [e3] at hl
  show (if _ then some (Ent.ow (.list ((Txt.split (Txt.join semi parts) semi).map .str))) else none) = _
  rw [split_semi hne hp, if_pos]
  have each := @le_sum parts
  have e4 : (semi.length != 0) = true := by decide +kernel
  rw [Bool.and_eq_true, Bool.and_eq_true, Bool.and_eq_true, List.all_eq_true]
  refine ⟨⟨e4, decide_eq_true ?_⟩, fun p hp => ?_, decide_eq_true ?_⟩
  · rw [join_eq]
    show _ ≤ 16777216
    omega
  · unfold okS
    rw [Bool.and_eq_true]
    refine ⟨decide_eq_true ?_, strOk_lo.mpr (h3 p hp)⟩
    have := each p hp
    show _ ≤ 16777216
    omega
  · show _ ≤ 16777216
    omega
end DL
end
section
set_option maxRecDepth 100000
set_option maxHeartbeats 0
namespace KH
open PySem PySem.Spec L2 DL
open PyProof.Rows hiding St
def top (i : Nat) : Stmt := PySem.Challenge.pw_onlytheseen_k37_texts_of_sayings_and_cla.main.body.getD i (.Pass ⟨0, 0, 0, 0⟩)
abbrev s_is_truth : Stmt := top 10
def d_is_truth : He.DefD := ⟨("is_truth", none), "is_truth", "is_truth", defArgs s_is_truth, defBody s_is_truth, defScope s_is_truth, [], []⟩
abbrev s_anew : Stmt := top 11
def d_anew : He.DefD := ⟨("anew", none), "anew", "anew", defArgs s_anew, defBody s_anew, defScope s_anew, [], []⟩
abbrev s_are_ascending : Stmt := top 12
def d_are_ascending : He.DefD := ⟨("are_ascending", none), "are_ascending", "are_ascending", defArgs s_are_ascending, defBody s_are_ascending, defScope s_are_ascending, [], []⟩
abbrev s_is_name : Stmt := top 13
def d_is_name : He.DefD := ⟨("is_name", none), "is_name", "is_name", defArgs s_is_name, defBody s_is_name, defScope s_is_name, [], []⟩
abbrev s_are_names : Stmt := top 14
def d_are_names : He.DefD := ⟨("are_names", none), "are_names", "are_names", defArgs s_are_names, defBody s_are_names, defScope s_are_names, [], []⟩
abbrev s_is_letter : Stmt := top 15
def d_is_letter : He.DefD := ⟨("is_letter", none), "is_letter", "is_letter", defArgs s_is_letter, defBody s_is_letter, defScope s_is_letter, [], []⟩
abbrev s_is_any_clause : Stmt := top 16
def d_is_any_clause : He.DefD := ⟨("is_any_clause", none), "is_any_clause", "is_any_clause", defArgs s_is_any_clause, defBody s_is_any_clause, defScope s_is_any_clause, [], []⟩
abbrev s_is_own : Stmt := top 17
def d_is_own : He.DefD := ⟨("is_own", none), "is_own", "is_own", defArgs s_is_own, defBody s_is_own, defScope s_is_own, [], []⟩
abbrev s_are_owns : Stmt := top 18
def d_are_owns : He.DefD := ⟨("are_owns", none), "are_owns", "are_owns", defArgs s_are_owns, defBody s_are_owns, defScope s_are_owns, [], []⟩
abbrev s_names_of : Stmt := top 19
def d_names_of : He.DefD := ⟨("names_of", none), "names_of", "names_of", defArgs s_names_of, defBody s_names_of, defScope s_names_of, [], []⟩
abbrev s_has_names : Stmt := top 20
def d_has_names : He.DefD := ⟨("has_names", none), "has_names", "has_names", defArgs s_has_names, defBody s_has_names, defScope s_has_names, [], []⟩
abbrev s_is_a_saying : Stmt := top 21
def d_is_a_saying : He.DefD := ⟨("is_a_saying", none), "is_a_saying", "is_a_saying", defArgs s_is_a_saying, defBody s_is_a_saying, defScope s_is_a_saying, [], []⟩
abbrev s_words_of : Stmt := top 23
def d_words_of : He.DefD := ⟨("words_of", none), "words_of", "words_of", defArgs s_words_of, defBody s_words_of, defScope s_words_of, [], []⟩
abbrev s_show_clause : Stmt := top 24
def d_show_clause : He.DefD := ⟨("show_clause", none), "show_clause", "show_clause", defArgs s_show_clause, defBody s_show_clause, defScope s_show_clause, [], []⟩
abbrev s_show_saying : Stmt := top 25
def d_show_saying : He.DefD := ⟨("show_saying", none), "show_saying", "show_saying", defArgs s_show_saying, defBody s_show_saying, defScope s_show_saying, [], []⟩
abbrev s_letter_in : Stmt := top 27
def d_letter_in : He.DefD := ⟨("letter_in", none), "letter_in", "letter_in", defArgs s_letter_in, defBody s_letter_in, defScope s_letter_in, [], []⟩
abbrev s_clause_of : Stmt := top 28
def d_clause_of : He.DefD := ⟨("clause_of", none), "clause_of", "clause_of", defArgs s_clause_of, defBody s_clause_of, defScope s_clause_of, [], []⟩
abbrev s_clause_in : Stmt := top 29
def d_clause_in : He.DefD := ⟨("clause_in", none), "clause_in", "clause_in", defArgs s_clause_in, defBody s_clause_in, defScope s_clause_in, [], []⟩
abbrev s_names_of_text : Stmt := top 30
def d_names_of_text : He.DefD := ⟨("names_of_text", none), "names_of_text", "names_of_text", defArgs s_names_of_text, defBody s_names_of_text, defScope s_names_of_text, [], []⟩
abbrev s_own_of : Stmt := top 31
def d_own_of : He.DefD := ⟨("own_of", none), "own_of", "own_of", defArgs s_own_of, defBody s_own_of, defScope s_own_of, [], []⟩
abbrev s_saying_in : Stmt := top 32
def d_saying_in : He.DefD := ⟨("saying_in", none), "saying_in", "saying_in", defArgs s_saying_in, defBody s_saying_in, defScope s_saying_in, [], []⟩
abbrev s_read_saying : Stmt := top 33
def d_read_saying : He.DefD := ⟨("read_saying", none), "read_saying", "read_saying", defArgs s_read_saying, defBody s_read_saying, defScope s_read_saying, [], []⟩
abbrev s_read_clause : Stmt := top 34
def d_read_clause : He.DefD := ⟨("read_clause", none), "read_clause", "read_clause", defArgs s_read_clause, defBody s_read_clause, defScope s_read_clause, [], []⟩
abbrev s__law_seed : Stmt := top 36
def d__law_seed : He.DefD := ⟨("_law_seed", none), "_law_seed", "_law_seed", defArgs s__law_seed, defBody s__law_seed, defScope s__law_seed, [], []⟩
abbrev s__law_any : Stmt := top 37
def d__law_any : He.DefD := ⟨("_law_any", none), "_law_any", "_law_any", defArgs s__law_any, defBody s__law_any, defScope s__law_any, [], []⟩
abbrev s__law_one_of : Stmt := top 38
def d__law_one_of : He.DefD := ⟨("_law_one_of", none), "_law_one_of", "_law_one_of", defArgs s__law_one_of, defBody s__law_one_of, defScope s__law_one_of, [], []⟩
abbrev s__law_bits : Stmt := top 39
def d__law_bits : He.DefD := ⟨("_law_bits", none), "_law_bits", "_law_bits", defArgs s__law_bits, defBody s__law_bits, defScope s__law_bits, [], []⟩
abbrev s__law_word : Stmt := top 40
def d__law_word : He.DefD := ⟨("_law_word", none), "_law_word", "_law_word", defArgs s__law_word, defBody s__law_word, defScope s__law_word, [], []⟩
abbrev s__law_read : Stmt := top 41
def d__law_read : He.DefD := ⟨("_law_read", none), "_law_read", "_law_read", defArgs s__law_read, defBody s__law_read, defScope s__law_read, [], []⟩
abbrev s__law_odd_sayings : Stmt := top 42
def d__law_odd_sayings : He.DefD := ⟨("_law_odd_sayings", none), "_law_odd_sayings", "_law_odd_sayings", defArgs s__law_odd_sayings, defBody s__law_odd_sayings, defScope s__law_odd_sayings, [], []⟩
abbrev s__law_fine_sayings : Stmt := top 43
def d__law_fine_sayings : He.DefD := ⟨("_law_fine_sayings", none), "_law_fine_sayings", "_law_fine_sayings", defArgs s__law_fine_sayings, defBody s__law_fine_sayings, defScope s__law_fine_sayings, [], []⟩
abbrev s__law_many : Stmt := top 44
def d__law_many : He.DefD := ⟨("_law_many", none), "_law_many", "_law_many", defArgs s__law_many, defBody s__law_many, defScope s__law_many, [], []⟩
abbrev s_law : Stmt := top 45
def d_law : He.DefD := ⟨("law", none), "law", "law", defArgs s_law, defBody s_law, defScope s_law, [], []⟩
def fn_0 : List He.DefD := [d_is_truth, d_anew, d_are_ascending, d_is_name, d_are_names, d_is_letter, d_is_any_clause, d_is_own, d_are_owns, d_names_of, d_has_names, d_is_a_saying, d_words_of, d_show_clause, d_show_saying, d_letter_in, d_clause_of, d_clause_in, d_names_of_text, d_own_of, d_saying_in, d_read_saying, d_read_clause, d__law_seed, d__law_any, d__law_one_of, d__law_bits, d__law_word, d__law_read, d__law_odd_sayings, d__law_fine_sayings, d__law_many, d_law]
def fn : List He.DefD := fn_0
def fa_0 : List He.Fa := [.glo "is_truth", .glo "anew", .glo "are_ascending", .glo "is_name", .glo "are_names", .glo "is_letter", .glo "is_any_clause", .glo "is_own", .glo "are_owns", .glo "names_of", .glo "has_names", .glo "is_a_saying", .glo "words_of", .glo "show_clause", .glo "show_saying", .glo "letter_in", .glo "clause_of", .glo "clause_in", .glo "names_of_text", .glo "own_of", .glo "saying_in", .glo "read_saying", .glo "read_clause", .glo "_law_seed", .glo "_law_any", .glo "_law_one_of", .glo "_law_bits", .glo "_law_word", .glo "_law_read", .glo "_law_odd_sayings", .glo "_law_fine_sayings", .glo "_law_many", .glo "law", .free "all", .free "bool"]
def fa_1 : List He.Fa := [.free "int", .free "isinstance", .free "len", .free "list", .free "range", .free "repr", .free "sorted", .free "str", .free "sum", .free "super", .free "tuple", .free "zip", .str "LETTERS" "abcdefghijklmnopqrstuvwxyz", .int "MOST_LETTERS" (8), .int "MOST_PICKS" (6), .int "MOST_OWNS" (8), .int "MOST_CLAUSES" (40), .int "MOST_COPIES" (120)]
def fa : List He.Fa := fa_0 ++ fa_1
def loose_0 : List PySem.Str := [("SightError" : PySem.Str), ("Unreadable" : PySem.Str), ("LETTERS" : PySem.Str), ("MOST_LETTERS" : PySem.Str), ("MOST_PICKS" : PySem.Str), ("MOST_OWNS" : PySem.Str), ("MOST_CLAUSES" : PySem.Str), ("MOST_COPIES" : PySem.Str), ("is_truth" : PySem.Str), ("anew" : PySem.Str), ("are_ascending" : PySem.Str), ("is_name" : PySem.Str), ("are_names" : PySem.Str), ("is_letter" : PySem.Str), ("is_any_clause" : PySem.Str), ("is_own" : PySem.Str), ("are_owns" : PySem.Str), ("names_of" : PySem.Str), ("has_names" : PySem.Str), ("is_a_saying" : PySem.Str), ("words_of" : PySem.Str), ("show_clause" : PySem.Str), ("show_saying" : PySem.Str), ("letter_in" : PySem.Str), ("clause_of" : PySem.Str), ("clause_in" : PySem.Str), ("names_of_text" : PySem.Str), ("own_of" : PySem.Str), ("saying_in" : PySem.Str), ("read_saying" : PySem.Str), ("read_clause" : PySem.Str), ("_law_seed" : PySem.Str), ("_law_any" : PySem.Str), ("_law_one_of" : PySem.Str), ("_law_bits" : PySem.Str)]
def loose_1 : List PySem.Str := [("_law_word" : PySem.Str), ("_law_read" : PySem.Str), ("_law_odd_sayings" : PySem.Str), ("_law_fine_sayings" : PySem.Str), ("_law_many" : PySem.Str)]
def loose : List PySem.Str := loose_0 ++ loose_1
def xs : List Str := ["Unreadable"]
def s_init : Stmt := match top 1 with
  | .ClassDef _ _ _ b _ _ _ _ _ _ _ => b.getD 0 (.Pass ⟨0, 0, 0, 0⟩)
  | _ => .Pass ⟨0, 0, 0, 0⟩
abbrev Wz (P : Program) (w : World) (K : PySem.W.Frag) (mg : Str → Option Value) (base : Heap) : Prop := W0 P w K mg base fa fn xs
section
variable {P : Program} {w : World} {K : PySem.W.Frag} {mg : Str → Option Value} {base : Heap}
def N_is_truth : List Str := ["value"]
def ps_is_truth : List Str := ["value"]
theorem sc_is_truth : FnScope N_is_truth ps_is_truth (defScope s_is_truth) := ⟨rfl, rfl, rfl, by decide +kernel, rfl, by decide +kernel, by decide +kernel⟩
theorem bind_is_truth : BindOk "is_truth" s_is_truth ps_is_truth := fun _ _ _ _ _ _ us hl => match us, hl with | [_], _ => rfl
def g_is_truth : M Fl := (lCons (lRet (mO (dIsi "bool" (dSlot 0)))) lNil)
def f_is_truth : DFn := runFn none 0 g_is_truth
theorem ok_is_truth (Z : Wz P w K mg base) : Cal P w K mg base 1 "is_truth" s_is_truth ps_is_truth none f_is_truth :=
  cal_of (m := 0) (Z.known 0) (Z.glo 0) sc_is_truth rfl bind_is_truth nofun fun cdv A outer s H E G =>
  (el_cons (es_ret (EvF.toO (ev_isi (eb_name 0) (by rfl) (Z.free 36) (by rfl) (Z.free 34) (by decide +kernel) (by decide +kernel))))
  el_nil)
def N_anew : List Str := ["value", "part"]
def ps_anew : List Str := ["value"]
theorem sc_anew : FnScope N_anew ps_anew (defScope s_anew) := ⟨rfl, rfl, rfl, by decide +kernel, rfl, by decide +kernel, by decide +kernel⟩
theorem bind_anew : BindOk "anew" s_anew ps_anew := fun _ _ _ _ _ _ us hl => match us, hl with | [_], _ => rfl
def e_anew_2 (self : DFn) : M D := (mF (dCall none 1 self (dConsP (mB (dName 1)) (M.pure []))))
def e_anew_1 (self : DFn) : M D := (mF (dCall none 1 self (dConsP (mB (dName 1)) (M.pure []))))
def g_anew (self : DFn) : M Fl := (lCons (lIf (dTest (dIsi "list" (dSlot 0))) (lCons (lRet (dLc (gSeq (dName 0)) (tName 1) yes (e_anew_1 self) [1])) lNil) lNil) (lCons (lIf (dTest (dIsi "tuple" (dSlot 0))) (lCons (lRet (dCallB tupleF (dConsP (mB (mF (dLc (gSeq (dName 0)) (tName 1) yes (e_anew_2 self) [1]))) (M.pure [])))) lNil) lNil) (lCons (lRet (dMove 0)) lNil)))
def f_anew : Nat → DFn
  | 0 => badFn
  | n + 1 => runFn none 1 (g_anew (f_anew n))
theorem okn_anew (Z : Wz P w K mg base) : ∀ n : Nat, Cal P w K mg base (n + 1) "anew" s_anew ps_anew none (f_anew n)
  | 0 => cal_bad (Z.known 1) (Z.glo 1) bind_anew nofun
  | n + 1 => by
    have CS := okn_anew Z n
    rw [show n + 1 + 1 = (n + 1) + 1 by omega]
    exact cal_of (m := 1) (Z.known 1) (Z.glo 1) sc_anew rfl bind_anew nofun fun cdv A outer s H E G =>
  (el_cons (es_if (et_val (ev_isi (eb_name 0) (by rfl) (Z.free 36) (by rfl) (Z.free 38) (by decide +kernel) (by decide +kernel)))
  (el_cons (es_ret (eo_lcG (own := [("part", 1)]) G (it_any (ev_name 0)) (by first | rfl | decide +kernel) (fun _ _ _ _ _ G2 => (tg_name (i := 1) G2.nd)) (fun _ _ _ _ _ G2 => ets_nil) (fun _ _ _ _ _ G2 => (EvO.toF (eo_c CS G2 (by omega) (ep_cons (EvF.toB (ev_name 1)) ep_nil) (by rfl))))))
  el_nil)
  el_nil)
  (el_cons (es_if (et_val (ev_isi (eb_name 0) (by rfl) (Z.free 36) (by rfl) (Z.free 45) (by decide +kernel) (by decide +kernel)))
  (el_cons (es_ret (eo_callTy c_tuple (by rfl) (Z.free 45) (by decide +kernel) (ep_cons (EvF.toB (EvO.toF (eo_lcG (own := [("part", 1)]) G (it_any (ev_name 0)) (by first | rfl | decide +kernel) (fun _ _ _ _ _ G2 => (tg_name (i := 1) G2.nd)) (fun _ _ _ _ _ G2 => ets_nil) (fun _ _ _ _ _ G2 => (EvO.toF (eo_c CS G2 (by omega) (ep_cons (EvF.toB (ev_name 1)) ep_nil) (by rfl))))))) ep_nil)))
  el_nil)
  el_nil)
  (el_cons (es_ret (eo_move 0))
  el_nil)))
theorem ok_anew (Z : Wz P w K mg base) : Cal P w K mg base 9 "anew" s_anew ps_anew none (f_anew 8) := okn_anew Z 8
def N_are_ascending : List Str := ["values", "at"]
def ps_are_ascending : List Str := ["values"]
theorem sc_are_ascending : FnScope N_are_ascending ps_are_ascending (defScope s_are_ascending) := ⟨rfl, rfl, rfl, by decide +kernel, rfl, by decide +kernel, by decide +kernel⟩
theorem bind_are_ascending : BindOk "are_ascending" s_are_ascending ps_are_ascending := fun _ _ _ _ _ _ us hl => match us, hl with | [_], _ => rfl
def e_are_ascending_1 : M D := (mF (dBin ltD (mB (mF (dBin ixD (dSlot 0) (dSlot 1)))) (mB (mF (dBin ixD (dSlot 0) (mB (mF (dBin addD (dSlot 1) (mB (M.pure (PyData.int 1)))))))))))
def g_are_ascending : M Fl := (lCons (lRet (dCallB allF (dConsP (mB (mF (dLc (gRng1 (dCons (mF (dBin subD (mB (mF (dCallB lenF (dConsP (dSlot 0) (M.pure []))))) (mB (M.pure (PyData.int 1))))) (M.pure []))) (tName 1) yes e_are_ascending_1 [1]))) (M.pure [])))) lNil)
def f_are_ascending : DFn := runFn none 1 g_are_ascending
theorem ok_are_ascending (Z : Wz P w K mg base) : Cal P w K mg base 1 "are_ascending" s_are_ascending ps_are_ascending none f_are_ascending :=
  cal_of (m := 1) (Z.known 2) (Z.glo 2) sc_are_ascending rfl bind_are_ascending nofun fun cdv A outer s H E G =>
  (el_cons (es_ret (eo_callB (c_all G.calm) (by rfl) (Z.free 33) (by decide +kernel) (ep_cons (EvF.toB (EvO.toF (eo_lcG (own := [("at", 1)]) G (it_rng1 (ea_cons (EvO.toF (eo_bin op_subD (EvF.toB (EvO.toF (eo_callB c_len (by rfl) (Z.free 37) (by decide +kernel) (ep_cons (eb_name 0) ep_nil)))) (EvF.toB ev_int))) ea_nil) (by rfl) (Z.free 39)) (by first | rfl | decide +kernel) (fun _ _ _ _ _ G2 => (tg_name (i := 1) G2.nd)) (fun _ _ _ _ _ G2 => ets_nil) (fun _ _ _ _ _ G2 => (EvO.toF (eo_cmp (op_ltD G2.u) (EvF.toB (EvO.toF (eo_ix ix_D (eb_name 0) (eb_name 1) (fun _ _ => by rfl)))) (EvF.toB (EvO.toF (eo_ix ix_D (eb_name 0) (EvF.toB (EvO.toF (eo_bin op_addD (eb_name 1) (EvF.toB ev_int)))) (fun _ _ => by rfl)))) (by rfl))))))) ep_nil)))
  el_nil)
def N_is_name : List Str := ["value", "sign"]
def ps_is_name : List Str := ["value"]
theorem sc_is_name : FnScope N_is_name ps_is_name (defScope s_is_name) := ⟨rfl, rfl, rfl, by decide +kernel, rfl, by decide +kernel, by decide +kernel⟩
theorem bind_is_name : BindOk "is_name" s_is_name ps_is_name := fun _ _ _ _ _ _ us hl => match us, hl with | [_], _ => rfl
def e_is_name_1 : M D := (mF (dBin inD (dSlot 1) (mB (M.pure (PyData.str "abcdefghijklmnopqrstuvwxyz")))))
def g_is_name : M Fl := (lCons (lRet (mO (dAnd (dIsi "str" (dSlot 0)) (dAnd (dChain leD leD (mB (M.pure (PyData.int 1))) (mB (mF (dCallB lenF (dConsP (dSlot 0) (M.pure []))))) (mB (M.pure (PyData.int 8)))) (mF (dCallB allF (dConsP (mB (mF (dLc (gSeq (dName 0)) (tName 1) yes e_is_name_1 [1]))) (M.pure [])))))))) lNil)
def f_is_name : DFn := runFn none 1 g_is_name
theorem ok_is_name (Z : Wz P w K mg base) : Cal P w K mg base 1 "is_name" s_is_name ps_is_name none f_is_name :=
  cal_of (m := 1) (Z.known 3) (Z.glo 3) sc_is_name rfl bind_is_name nofun fun cdv A outer s H E G =>
  (el_cons (es_ret (EvF.toO (ev_and (ev_isi (eb_name 0) (by rfl) (Z.free 36) (by rfl) (Z.free 42) (by decide +kernel) (by decide +kernel)) (ev_and (ev_chain (op_leD G.u) (op_leD G.u) (EvF.toB ev_int) (EvF.toB (EvO.toF (eo_callB c_len (by rfl) (Z.free 37) (by decide +kernel) (ep_cons (eb_name 0) ep_nil)))) (EvF.toB (Z.int 48 (by rfl)))) (ev_one (EvO.toF (eo_callB (c_all G.calm) (by rfl) (Z.free 33) (by decide +kernel) (ep_cons (EvF.toB (EvO.toF (eo_lcG (own := [("sign", 1)]) G (it_any (ev_name 0)) (by first | rfl | decide +kernel) (fun _ _ _ _ _ G2 => (tg_name (i := 1) G2.nd)) (fun _ _ _ _ _ G2 => ets_nil) (fun _ _ _ _ _ G2 => (EvO.toF (eo_cmp (op_inD' G2.u) (eb_name 1) (EvF.toB (Z.str 47 (by rfl) (by decide +kernel))) (by rfl))))))) ep_nil))))))))
  el_nil)
def N_are_names : List Str := ["value", "name"]
def ps_are_names : List Str := ["value"]
theorem sc_are_names : FnScope N_are_names ps_are_names (defScope s_are_names) := ⟨rfl, rfl, rfl, by decide +kernel, rfl, by decide +kernel, by decide +kernel⟩
theorem bind_are_names : BindOk "are_names" s_are_names ps_are_names := fun _ _ _ _ _ _ us hl => match us, hl with | [_], _ => rfl
def e_are_names_1 : M D := (mF (dCall none 1 f_is_name (dConsP (mB (dName 1)) (M.pure []))))
def g_are_names : M Fl := (lCons (lRet (mO (dAnd (dIsi "tuple" (dSlot 0)) (dAnd (mF (dCallB allF (dConsP (mB (mF (dLc (gSeq (dName 0)) (tName 1) yes e_are_names_1 [1]))) (M.pure [])))) (mF (dCall none 1 f_are_ascending (dConsP (mB (dName 0)) (M.pure [])))))))) lNil)
def f_are_names : DFn := runFn none 1 g_are_names
theorem ok_are_names (Z : Wz P w K mg base) : Cal P w K mg base 2 "are_names" s_are_names ps_are_names none f_are_names :=
  cal_of (m := 1) (Z.known 4) (Z.glo 4) sc_are_names rfl bind_are_names nofun fun cdv A outer s H E G =>
  (el_cons (es_ret (EvF.toO (ev_and (ev_isi (eb_name 0) (by rfl) (Z.free 36) (by rfl) (Z.free 45) (by decide +kernel) (by decide +kernel)) (ev_and (EvO.toF (eo_callB (c_all G.calm) (by rfl) (Z.free 33) (by decide +kernel) (ep_cons (EvF.toB (EvO.toF (eo_lcG (own := [("name", 1)]) G (it_any (ev_name 0)) (by first | rfl | decide +kernel) (fun _ _ _ _ _ G2 => (tg_name (i := 1) G2.nd)) (fun _ _ _ _ _ G2 => ets_nil) (fun _ _ _ _ _ G2 => (EvO.toF (eo_c (ok_is_name Z) G2 (by decide) (ep_cons (EvF.toB (ev_name 1)) ep_nil) (by rfl))))))) ep_nil))) (ev_one (EvO.toF (eo_c (ok_are_ascending Z) G (by decide) (ep_cons (EvF.toB (ev_name 0)) ep_nil) (by rfl))))))))
  el_nil)
def N_is_letter : List Str := ["value"]
def ps_is_letter : List Str := ["value"]
theorem sc_is_letter : FnScope N_is_letter ps_is_letter (defScope s_is_letter) := ⟨rfl, rfl, rfl, by decide +kernel, rfl, by decide +kernel, by decide +kernel⟩
theorem bind_is_letter : BindOk "is_letter" s_is_letter ps_is_letter := fun _ _ _ _ _ _ us hl => match us, hl with | [_], _ => rfl
def g_is_letter : M Fl := (lCons (lRet (mO (dAnd (dIsi "tuple" (dSlot 0)) (dAnd (mF (dBin eqD (mB (mF (dCallB lenF (dConsP (dSlot 0) (M.pure []))))) (mB (M.pure (PyData.int 2))))) (dAnd (mF (dCall none 1 f_is_name (dConsP (mB (mF (dBin ixD (dSlot 0) (mB (M.pure (PyData.int 0)))))) (M.pure [])))) (mF (dCall none 1 f_is_truth (dConsP (mB (mF (dBin ixD (dSlot 0) (mB (M.pure (PyData.int 1)))))) (M.pure []))))))))) lNil)
def f_is_letter : DFn := runFn none 0 g_is_letter
theorem ok_is_letter (Z : Wz P w K mg base) : Cal P w K mg base 2 "is_letter" s_is_letter ps_is_letter none f_is_letter :=
  cal_of (m := 0) (Z.known 5) (Z.glo 5) sc_is_letter rfl bind_is_letter nofun fun cdv A outer s H E G =>
  (el_cons (es_ret (EvF.toO (ev_and (ev_isi (eb_name 0) (by rfl) (Z.free 36) (by rfl) (Z.free 45) (by decide +kernel) (by decide +kernel)) (ev_and (EvO.toF (eo_cmp (op_eqD G.u) (EvF.toB (EvO.toF (eo_callB c_len (by rfl) (Z.free 37) (by decide +kernel) (ep_cons (eb_name 0) ep_nil)))) (EvF.toB ev_int) (by rfl))) (ev_and (EvO.toF (eo_c (ok_is_name Z) G (by decide) (ep_cons (EvF.toB (EvO.toF (eo_ix ix_D (eb_name 0) (EvF.toB ev_int) (fun _ _ => by rfl)))) ep_nil) (by rfl))) (ev_one (EvO.toF (eo_c (ok_is_truth Z) G (by decide) (ep_cons (EvF.toB (EvO.toF (eo_ix ix_D (eb_name 0) (EvF.toB ev_int) (fun _ _ => by rfl)))) ep_nil) (by rfl)))))))))
  el_nil)
def N_is_any_clause : List Str := ["value", "letter", "name", "truth"]
def ps_is_any_clause : List Str := ["value"]
theorem sc_is_any_clause : FnScope N_is_any_clause ps_is_any_clause (defScope s_is_any_clause) := ⟨rfl, rfl, rfl, by decide +kernel, rfl, by decide +kernel, by decide +kernel⟩
theorem bind_is_any_clause : BindOk "is_any_clause" s_is_any_clause ps_is_any_clause := fun _ _ _ _ _ _ us hl => match us, hl with | [_], _ => rfl
def e_is_any_clause_2 : M D := (dName 2)
def e_is_any_clause_1 : M D := (mF (dCall none 1 f_is_letter (dConsP (mB (dName 1)) (M.pure []))))
def g_is_any_clause : M Fl := (lCons (lIf (dOrT (dNotT (dTest (dIsi "tuple" (dSlot 0)))) (dNotT (dTest (mF (dCallB allF (dConsP (mB (mF (dLc (gSeq (dName 0)) (tName 1) yes e_is_any_clause_1 [1]))) (M.pure []))))))) (lCons (lRet (mO (M.pure (PyData.bool false)))) lNil) lNil) (lCons (lRet (dCall none 1 f_are_ascending (dConsP (mB (mF (dCallB tupleF (dConsP (mB (mF (dLc (gSeq (dName 0)) (tTup 2 (DL.tCons (tName 2) (DL.tCons (tName 3) DL.tNil))) yes e_is_any_clause_2 [2, 3]))) (M.pure []))))) (M.pure [])))) lNil))
def f_is_any_clause : DFn := runFn none 3 g_is_any_clause
theorem ok_is_any_clause (Z : Wz P w K mg base) : Cal P w K mg base 3 "is_any_clause" s_is_any_clause ps_is_any_clause none f_is_any_clause :=
  cal_of (m := 3) (Z.known 6) (Z.glo 6) sc_is_any_clause rfl bind_is_any_clause nofun fun cdv A outer s H E G =>
  (el_cons (es_if (EvW.t (ew_or (et_not (et_val (ev_isi (eb_name 0) (by rfl) (Z.free 36) (by rfl) (Z.free 45) (by decide +kernel) (by decide +kernel)))) (ew_or1 (et_not (et_val (EvO.toF (eo_callB (c_all G.calm) (by rfl) (Z.free 33) (by decide +kernel) (ep_cons (EvF.toB (EvO.toF (eo_lcG (own := [("letter", 1)]) G (it_any (ev_name 0)) (by first | rfl | decide +kernel) (fun _ _ _ _ _ G2 => (tg_name (i := 1) G2.nd)) (fun _ _ _ _ _ G2 => ets_nil) (fun _ _ _ _ _ G2 => (EvO.toF (eo_c (ok_is_letter Z) G2 (by decide) (ep_cons (EvF.toB (ev_name 1)) ep_nil) (by rfl))))))) ep_nil))))))))
  (el_cons (es_ret (EvF.toO ev_bl))
  el_nil)
  el_nil)
  (el_cons (es_ret (eo_c (ok_are_ascending Z) G (by decide) (ep_cons (EvF.toB (EvO.toF (eo_callTy c_tuple (by rfl) (Z.free 45) (by decide +kernel) (ep_cons (EvF.toB (EvO.toF (eo_lcG (own := [("name", 2), ("truth", 3)]) G (it_any (ev_name 0)) (by first | rfl | decide +kernel) (fun _ _ _ _ _ G2 => (tg_tup G2.calm (tgs_cons (tg_name (i := 2) G2.nd) (tgs_cons (tg_name (i := 3) G2.nd) tgs_nil)))) (fun _ _ _ _ _ G2 => ets_nil) (fun _ _ _ _ _ G2 => (ev_name 2))))) ep_nil)))) ep_nil) (by rfl)))
  el_nil))
def N_is_own : List Str := ["value", "picks", "pick"]
def ps_is_own : List Str := ["value", "picks"]
theorem sc_is_own : FnScope N_is_own ps_is_own (defScope s_is_own) := ⟨rfl, rfl, rfl, by decide +kernel, rfl, by decide +kernel, by decide +kernel⟩
theorem bind_is_own : BindOk "is_own" s_is_own ps_is_own := fun _ _ _ _ _ _ us hl => match us, hl with | [_, _], _ => rfl
def e_is_own_1 : M D := (mF (dBin inD (dSlot 2) (dSlot 1)))
def g_is_own : M Fl := (lCons (lIf (dOrT (dNotT (dTest (dIsi "tuple" (dSlot 0)))) (dOrT (dTest (mF (dBin neD (mB (mF (dCallB lenF (dConsP (dSlot 0) (M.pure []))))) (mB (M.pure (PyData.int 2)))))) (dOrT (dNotT (dTest (mF (dCall none 1 f_is_name (dConsP (mB (mF (dBin ixD (dSlot 0) (mB (M.pure (PyData.int 0)))))) (M.pure [])))))) (dTest (mF (dBin inD (mB (mF (dBin ixD (dSlot 0) (mB (M.pure (PyData.int 0)))))) (dSlot 1))))))) (lCons (lRet (mO (M.pure (PyData.bool false)))) lNil) lNil) (lCons (lRet (mO (dAnd (mF (dCall none 1 f_are_names (dConsP (mB (mF (dBin ixD (dSlot 0) (mB (M.pure (PyData.int 1)))))) (M.pure [])))) (mF (dCallB allF (dConsP (mB (mF (dLc (gSeq (mF (dBin ixD (dSlot 0) (mB (M.pure (PyData.int 1)))))) (tName 2) yes e_is_own_1 [2]))) (M.pure []))))))) lNil))
def f_is_own : DFn := runFn none 1 g_is_own
theorem ok_is_own (Z : Wz P w K mg base) : Cal P w K mg base 3 "is_own" s_is_own ps_is_own none f_is_own :=
  cal_of (m := 1) (Z.known 7) (Z.glo 7) sc_is_own rfl bind_is_own nofun fun cdv A outer s H E G =>
  (el_cons (es_if (EvW.t (ew_or (et_not (et_val (ev_isi (eb_name 0) (by rfl) (Z.free 36) (by rfl) (Z.free 45) (by decide +kernel) (by decide +kernel)))) (ew_or (et_cmp (op_neD G.u) (EvF.toB (EvO.toF (eo_callB c_len (by rfl) (Z.free 37) (by decide +kernel) (ep_cons (eb_name 0) ep_nil)))) (EvF.toB ev_int) (by rfl)) (ew_or (et_not (et_val (EvO.toF (eo_c (ok_is_name Z) G (by decide) (ep_cons (EvF.toB (EvO.toF (eo_ix ix_D (eb_name 0) (EvF.toB ev_int) (fun _ _ => by rfl)))) ep_nil) (by rfl))))) (ew_or1 (et_cmp (op_inD' G.u) (EvF.toB (EvO.toF (eo_ix ix_D (eb_name 0) (EvF.toB ev_int) (fun _ _ => by rfl)))) (eb_name 1) (by rfl)))))))
  (el_cons (es_ret (EvF.toO ev_bl))
  el_nil)
  el_nil)
  (el_cons (es_ret (EvF.toO (ev_and (EvO.toF (eo_c (ok_are_names Z) G (by decide) (ep_cons (EvF.toB (EvO.toF (eo_ix ix_D (eb_name 0) (EvF.toB ev_int) (fun _ _ => by rfl)))) ep_nil) (by rfl))) (ev_one (EvO.toF (eo_callB (c_all G.calm) (by rfl) (Z.free 33) (by decide +kernel) (ep_cons (EvF.toB (EvO.toF (eo_lcG (own := [("pick", 2)]) G (it_any (EvO.toF (eo_ix ix_D (eb_name 0) (EvF.toB ev_int) (fun _ _ => by rfl)))) (by first | rfl | decide +kernel) (fun _ _ _ _ _ G2 => (tg_name (i := 2) G2.nd)) (fun _ _ _ _ _ G2 => ets_nil) (fun _ _ _ _ _ G2 => (EvO.toF (eo_cmp (op_inD' G2.u) (eb_name 2) (eb_name 1) (by rfl))))))) ep_nil)))))))
  el_nil))
def N_are_owns : List Str := ["value", "picks", "own", "name", "sight"]
def ps_are_owns : List Str := ["value", "picks"]
theorem sc_are_owns : FnScope N_are_owns ps_are_owns (defScope s_are_owns) := ⟨rfl, rfl, rfl, by decide +kernel, rfl, by decide +kernel, by decide +kernel⟩
theorem bind_are_owns : BindOk "are_owns" s_are_owns ps_are_owns := fun _ _ _ _ _ _ us hl => match us, hl with | [_, _], _ => rfl
def e_are_owns_3 : M D := (mF (dBin shlD (mB (M.pure (PyData.int 1))) (mB (mF (dCallB lenF (dConsP (dSlot 4) (M.pure [])))))))
def e_are_owns_2 : M D := (dName 3)
def e_are_owns_1 : M D := (mF (dCall none 2 f_is_own (dConsP (mB (dName 2)) (dConsP (mB (dName 1)) (M.pure [])))))
def g_are_owns : M Fl := (lCons (lIf (dOrT (dNotT (dTest (dIsi "tuple" (dSlot 0)))) (dOrT (dTest (mF (dBin gtD (mB (mF (dCallB lenF (dConsP (dSlot 0) (M.pure []))))) (mB (M.pure (PyData.int 8)))))) (dNotT (dTest (mF (dCallB allF (dConsP (mB (mF (dLc (gSeq (dName 0)) (tName 2) yes e_are_owns_1 [2]))) (M.pure [])))))))) (lCons (lRet (mO (M.pure (PyData.bool false)))) lNil) lNil) (lCons (lIf (dNotT (dTest (mF (dCall none 1 f_are_ascending (dConsP (mB (mF (dCallB tupleF (dConsP (mB (mF (dLc (gSeq (dName 0)) (tTup 2 (DL.tCons (tName 3) (DL.tCons (tName 4) DL.tNil))) yes e_are_owns_2 [3, 4]))) (M.pure []))))) (M.pure [])))))) (lCons (lRet (mO (M.pure (PyData.bool false)))) lNil) lNil) (lCons (lRet (dBin leD (mB (mF (dCallB sumF (dConsP (mB (mF (dLc (gSeq (dName 0)) (tTup 2 (DL.tCons (tName 3) (DL.tCons (tName 4) DL.tNil))) yes e_are_owns_3 [3, 4]))) (M.pure []))))) (mB (M.pure (PyData.int 120))))) lNil)))
def f_are_owns : DFn := runFn none 3 g_are_owns
theorem ok_are_owns (Z : Wz P w K mg base) : Cal P w K mg base 4 "are_owns" s_are_owns ps_are_owns none f_are_owns :=
  cal_of (m := 3) (Z.known 8) (Z.glo 8) sc_are_owns rfl bind_are_owns nofun fun cdv A outer s H E G =>
  (el_cons (es_if (EvW.t (ew_or (et_not (et_val (ev_isi (eb_name 0) (by rfl) (Z.free 36) (by rfl) (Z.free 45) (by decide +kernel) (by decide +kernel)))) (ew_or (et_cmp (op_gtD G.u) (EvF.toB (EvO.toF (eo_callB c_len (by rfl) (Z.free 37) (by decide +kernel) (ep_cons (eb_name 0) ep_nil)))) (EvF.toB (Z.int 50 (by rfl))) (by rfl)) (ew_or1 (et_not (et_val (EvO.toF (eo_callB (c_all G.calm) (by rfl) (Z.free 33) (by decide +kernel) (ep_cons (EvF.toB (EvO.toF (eo_lcG (own := [("own", 2)]) G (it_any (ev_name 0)) (by first | rfl | decide +kernel) (fun _ _ _ _ _ G2 => (tg_name (i := 2) G2.nd)) (fun _ _ _ _ _ G2 => ets_nil) (fun _ _ _ _ _ G2 => (EvO.toF (eo_c (ok_is_own Z) G2 (by decide) (ep_cons (EvF.toB (ev_name 2)) (ep_cons (EvF.toB (ev_name 1)) ep_nil)) (by rfl))))))) ep_nil)))))))))
  (el_cons (es_ret (EvF.toO ev_bl))
  el_nil)
  el_nil)
  (el_cons (es_if (et_not (et_val (EvO.toF (eo_c (ok_are_ascending Z) G (by decide) (ep_cons (EvF.toB (EvO.toF (eo_callTy c_tuple (by rfl) (Z.free 45) (by decide +kernel) (ep_cons (EvF.toB (EvO.toF (eo_lcG (own := [("name", 3), ("sight", 4)]) G (it_any (ev_name 0)) (by first | rfl | decide +kernel) (fun _ _ _ _ _ G2 => (tg_tup G2.calm (tgs_cons (tg_name (i := 3) G2.nd) (tgs_cons (tg_name (i := 4) G2.nd) tgs_nil)))) (fun _ _ _ _ _ G2 => ets_nil) (fun _ _ _ _ _ G2 => (ev_name 3))))) ep_nil)))) ep_nil) (by rfl)))))
  (el_cons (es_ret (EvF.toO ev_bl))
  el_nil)
  el_nil)
  (el_cons (es_ret (eo_cmp (op_leD G.u) (EvF.toB (EvO.toF (eo_callB (c_sum G.calm) (by rfl) (Z.free 43) (by decide +kernel) (ep_cons (EvF.toB (EvO.toF (eo_lcG (own := [("name", 3), ("sight", 4)]) G (it_any (ev_name 0)) (by first | rfl | decide +kernel) (fun _ _ _ _ _ G2 => (tg_tup G2.calm (tgs_cons (tg_name (i := 3) G2.nd) (tgs_cons (tg_name (i := 4) G2.nd) tgs_nil)))) (fun _ _ _ _ _ G2 => ets_nil) (fun _ _ _ _ _ G2 => (EvO.toF (eo_bin op_shlD (EvF.toB ev_int) (EvF.toB (EvO.toF (eo_callB c_len (by rfl) (Z.free 37) (by decide +kernel) (ep_cons (eb_name 4) ep_nil)))))))))) ep_nil)))) (EvF.toB (Z.int 52 (by rfl))) (by rfl)))
  el_nil)))
def N_names_of : List Str := ["picks", "owns", "name", "sight"]
def ps_names_of : List Str := ["picks", "owns"]
theorem sc_names_of : FnScope N_names_of ps_names_of (defScope s_names_of) := ⟨rfl, rfl, rfl, by decide +kernel, rfl, by decide +kernel, by decide +kernel⟩
theorem bind_names_of : BindOk "names_of" s_names_of ps_names_of := fun _ _ _ _ _ _ us hl => match us, hl with | [_, _], _ => rfl
def e_names_of_1 : M D := (dName 2)
def g_names_of : M Fl := (lCons (lRet (dBin addD (mB (mF (dCallB listF (dConsP (dSlot 0) (M.pure []))))) (mB (mF (dLc (gSeq (dName 1)) (tTup 2 (DL.tCons (tName 2) (DL.tCons (tName 3) DL.tNil))) yes e_names_of_1 [2, 3]))))) lNil)
def f_names_of : DFn := runFn none 2 g_names_of
theorem ok_names_of (Z : Wz P w K mg base) : Cal P w K mg base 1 "names_of" s_names_of ps_names_of none f_names_of :=
  cal_of (m := 2) (Z.known 9) (Z.glo 9) sc_names_of rfl bind_names_of nofun fun cdv A outer s H E G =>
  (el_cons (es_ret (eo_bin op_addD (EvF.toB (EvO.toF (eo_callTy c_list (by rfl) (Z.free 38) (by decide +kernel) (ep_cons (eb_name 0) ep_nil)))) (EvF.toB (EvO.toF (eo_lcG (own := [("name", 2), ("sight", 3)]) G (it_any (ev_name 1)) (by first | rfl | decide +kernel) (fun _ _ _ _ _ G2 => (tg_tup G2.calm (tgs_cons (tg_name (i := 2) G2.nd) (tgs_cons (tg_name (i := 3) G2.nd) tgs_nil)))) (fun _ _ _ _ _ G2 => ets_nil) (fun _ _ _ _ _ G2 => (ev_name 2)))))))
  el_nil)
def N_has_names : List Str := ["clause", "names", "name", "truth"]
def ps_has_names : List Str := ["clause", "names"]
theorem sc_has_names : FnScope N_has_names ps_has_names (defScope s_has_names) := ⟨rfl, rfl, rfl, by decide +kernel, rfl, by decide +kernel, by decide +kernel⟩
theorem bind_has_names : BindOk "has_names" s_has_names ps_has_names := fun _ _ _ _ _ _ us hl => match us, hl with | [_, _], _ => rfl
def e_has_names_1 : M D := (mF (dBin inD (dSlot 2) (dSlot 1)))
def g_has_names : M Fl := (lCons (lRet (dCallB allF (dConsP (mB (mF (dLc (gSeq (dName 0)) (tTup 2 (DL.tCons (tName 2) (DL.tCons (tName 3) DL.tNil))) yes e_has_names_1 [2, 3]))) (M.pure [])))) lNil)
def f_has_names : DFn := runFn none 2 g_has_names
theorem ok_has_names (Z : Wz P w K mg base) : Cal P w K mg base 1 "has_names" s_has_names ps_has_names none f_has_names :=
  cal_of (m := 2) (Z.known 10) (Z.glo 10) sc_has_names rfl bind_has_names nofun fun cdv A outer s H E G =>
  (el_cons (es_ret (eo_callB (c_all G.calm) (by rfl) (Z.free 33) (by decide +kernel) (ep_cons (EvF.toB (EvO.toF (eo_lcG (own := [("name", 2), ("truth", 3)]) G (it_any (ev_name 0)) (by first | rfl | decide +kernel) (fun _ _ _ _ _ G2 => (tg_tup G2.calm (tgs_cons (tg_name (i := 2) G2.nd) (tgs_cons (tg_name (i := 3) G2.nd) tgs_nil)))) (fun _ _ _ _ _ G2 => ets_nil) (fun _ _ _ _ _ G2 => (EvO.toF (eo_cmp (op_inD' G2.u) (eb_name 2) (eb_name 1) (by rfl))))))) ep_nil)))
  el_nil)
def N_is_a_saying : List Str := ["value", "picks", "owns", "clauses", "names", "clause"]
def ps_is_a_saying : List Str := ["value"]
theorem sc_is_a_saying : FnScope N_is_a_saying ps_is_a_saying (defScope s_is_a_saying) := ⟨rfl, rfl, rfl, by decide +kernel, rfl, by decide +kernel, by decide +kernel⟩
theorem bind_is_a_saying : BindOk "is_a_saying" s_is_a_saying ps_is_a_saying := fun _ _ _ _ _ _ us hl => match us, hl with | [_], _ => rfl
def e_is_a_saying_2 : M D := (mF (dCall none 2 f_has_names (dConsP (mB (dName 5)) (dConsP (mB (dName 4)) (M.pure [])))))
def e_is_a_saying_1 : M D := (mF (dCall none 1 f_is_any_clause (dConsP (mB (dName 5)) (M.pure []))))
def g_is_a_saying : M Fl := (lCons (lIf (dOrT (dNotT (dTest (dIsi "tuple" (dSlot 0)))) (dTest (mF (dBin neD (mB (mF (dCallB lenF (dConsP (dSlot 0) (M.pure []))))) (mB (M.pure (PyData.int 3))))))) (lCons (lRet (mO (M.pure (PyData.bool false)))) lNil) lNil) (lCons (lAsg (dName 0) (tTup 3 (DL.tCons (tName 1) (DL.tCons (tName 2) (DL.tCons (tName 3) DL.tNil))))) (lCons (lIf (dOrT (dNotT (dTest (mF (dCall none 1 f_are_names (dConsP (mB (dName 1)) (M.pure [])))))) (dOrT (dTest (mF (dBin gtD (mB (mF (dCallB lenF (dConsP (dSlot 1) (M.pure []))))) (mB (M.pure (PyData.int 6)))))) (dNotT (dTest (mF (dCall none 2 f_are_owns (dConsP (mB (dName 2)) (dConsP (mB (dName 1)) (M.pure []))))))))) (lCons (lRet (mO (M.pure (PyData.bool false)))) lNil) lNil) (lCons (lIf (dOrT (dNotT (dTest (dIsi "tuple" (dSlot 3)))) (dTest (mF (dBin gtD (mB (mF (dCallB lenF (dConsP (dSlot 3) (M.pure []))))) (mB (M.pure (PyData.int 40))))))) (lCons (lRet (mO (M.pure (PyData.bool false)))) lNil) lNil) (lCons (lIf (dOrT (dNotT (dTest (mF (dCallB allF (dConsP (mB (mF (dLc (gSeq (dName 3)) (tName 5) yes e_is_a_saying_1 [5]))) (M.pure [])))))) (dNotT (dTest (mF (dCall none 1 f_are_ascending (dConsP (mB (dName 3)) (M.pure []))))))) (lCons (lRet (mO (M.pure (PyData.bool false)))) lNil) lNil) (lCons (lSet 4 (dCall none 2 f_names_of (dConsP (mB (dName 1)) (dConsP (mB (dName 2)) (M.pure []))))) (lCons (lRet (dCallB allF (dConsP (mB (mF (dLc (gSeq (dName 3)) (tName 5) yes e_is_a_saying_2 [5]))) (M.pure [])))) lNil)))))))
def f_is_a_saying : DFn := runFn none 5 g_is_a_saying
theorem ok_is_a_saying (Z : Wz P w K mg base) : Cal P w K mg base 5 "is_a_saying" s_is_a_saying ps_is_a_saying none f_is_a_saying :=
  cal_of (m := 5) (Z.known 11) (Z.glo 11) sc_is_a_saying rfl bind_is_a_saying nofun fun cdv A outer s H E G =>
  (el_cons (es_if (EvW.t (ew_or (et_not (et_val (ev_isi (eb_name 0) (by rfl) (Z.free 36) (by rfl) (Z.free 45) (by decide +kernel) (by decide +kernel)))) (ew_or1 (et_cmp (op_neD G.u) (EvF.toB (EvO.toF (eo_callB c_len (by rfl) (Z.free 37) (by decide +kernel) (ep_cons (eb_name 0) ep_nil)))) (EvF.toB ev_int) (by rfl)))))
  (el_cons (es_ret (EvF.toO ev_bl))
  el_nil)
  el_nil)
  (el_cons (es_asg (ev_name 0) (tg_tup G.calm (tgs_cons (tg_name (i := 1) G.nd) (tgs_cons (tg_name (i := 2) G.nd) (tgs_cons (tg_name (i := 3) G.nd) tgs_nil)))))
  (el_cons (es_if (EvW.t (ew_or (et_not (et_val (EvO.toF (eo_c (ok_are_names Z) G (by decide) (ep_cons (EvF.toB (ev_name 1)) ep_nil) (by rfl))))) (ew_or (et_cmp (op_gtD G.u) (EvF.toB (EvO.toF (eo_callB c_len (by rfl) (Z.free 37) (by decide +kernel) (ep_cons (eb_name 1) ep_nil)))) (EvF.toB (Z.int 49 (by rfl))) (by rfl)) (ew_or1 (et_not (et_val (EvO.toF (eo_c (ok_are_owns Z) G (by decide) (ep_cons (EvF.toB (ev_name 2)) (ep_cons (EvF.toB (ev_name 1)) ep_nil)) (by rfl)))))))))
  (el_cons (es_ret (EvF.toO ev_bl))
  el_nil)
  el_nil)
  (el_cons (es_if (EvW.t (ew_or (et_not (et_val (ev_isi (eb_name 3) (by rfl) (Z.free 36) (by rfl) (Z.free 45) (by decide +kernel) (by decide +kernel)))) (ew_or1 (et_cmp (op_gtD G.u) (EvF.toB (EvO.toF (eo_callB c_len (by rfl) (Z.free 37) (by decide +kernel) (ep_cons (eb_name 3) ep_nil)))) (EvF.toB (Z.int 51 (by rfl))) (by rfl)))))
  (el_cons (es_ret (EvF.toO ev_bl))
  el_nil)
  el_nil)
  (el_cons (es_if (EvW.t (ew_or (et_not (et_val (EvO.toF (eo_callB (c_all G.calm) (by rfl) (Z.free 33) (by decide +kernel) (ep_cons (EvF.toB (EvO.toF (eo_lcG (own := [("clause", 5)]) G (it_any (ev_name 3)) (by first | rfl | decide +kernel) (fun _ _ _ _ _ G2 => (tg_name (i := 5) G2.nd)) (fun _ _ _ _ _ G2 => ets_nil) (fun _ _ _ _ _ G2 => (EvO.toF (eo_c (ok_is_any_clause Z) G2 (by decide) (ep_cons (EvF.toB (ev_name 5)) ep_nil) (by rfl))))))) ep_nil))))) (ew_or1 (et_not (et_val (EvO.toF (eo_c (ok_are_ascending Z) G (by decide) (ep_cons (EvF.toB (ev_name 3)) ep_nil) (by rfl))))))))
  (el_cons (es_ret (EvF.toO ev_bl))
  el_nil)
  el_nil)
  (el_cons (es_set (i := 4) G.nd (eo_c (ok_names_of Z) G (by decide) (ep_cons (EvF.toB (ev_name 1)) (ep_cons (EvF.toB (ev_name 2)) ep_nil)) (by rfl)))
  (el_cons (es_ret (eo_callB (c_all G.calm) (by rfl) (Z.free 33) (by decide +kernel) (ep_cons (EvF.toB (EvO.toF (eo_lcG (own := [("clause", 5)]) G (it_any (ev_name 3)) (by first | rfl | decide +kernel) (fun _ _ _ _ _ G2 => (tg_name (i := 5) G2.nd)) (fun _ _ _ _ _ G2 => ets_nil) (fun _ _ _ _ _ G2 => (EvO.toF (eo_c (ok_has_names Z) G2 (by decide) (ep_cons (EvF.toB (ev_name 5)) (ep_cons (EvF.toB (ev_name 4)) ep_nil)) (by rfl))))))) ep_nil)))
  el_nil)))))))
def N_words_of : List Str := ["names"]
def ps_words_of : List Str := ["names"]
theorem sc_words_of : FnScope N_words_of ps_words_of (defScope s_words_of) := ⟨rfl, rfl, rfl, by decide +kernel, rfl, by decide +kernel, by decide +kernel⟩
theorem bind_words_of : BindOk "words_of" s_words_of ps_words_of := fun _ _ _ _ _ _ us hl => match us, hl with | [_], _ => rfl
def g_words_of : M Fl := (lCons (lRet (dIf (dTest (mF (dBin gtD (mB (mF (dCallB lenF (dConsP (dSlot 0) (M.pure []))))) (mB (M.pure (PyData.int 0)))))) (dRd "str" joinF (mB (M.pure (PyData.str " "))) (dCons (dName 0) (M.pure []))) (mO (M.pure (PyData.str "-"))))) lNil)
def f_words_of : DFn := runFn none 0 g_words_of
theorem ok_words_of (Z : Wz P w K mg base) : Cal P w K mg base 1 "words_of" s_words_of ps_words_of none f_words_of :=
  cal_of (m := 0) (Z.known 12) (Z.glo 12) sc_words_of rfl bind_words_of nofun fun cdv A outer s H E G =>
  (el_cons (es_ret (eo_if (et_cmp (op_gtD G.u) (EvF.toB (EvO.toF (eo_callB c_len (by rfl) (Z.free 37) (by decide +kernel) (ep_cons (eb_name 0) ep_nil)))) (EvF.toB ev_int) (by rfl)) (eo_rd F.plainAttrs_str F.slot_str_join m_join (EvF.toB (ev_str (by decide +kernel))) (ea_cons (ev_name 0) ea_nil)) (EvF.toO (ev_str (by decide +kernel)))))
  el_nil)
def N_show_clause : List Str := ["clause", "name", "truth"]
def ps_show_clause : List Str := ["clause"]
theorem sc_show_clause : FnScope N_show_clause ps_show_clause (defScope s_show_clause) := ⟨rfl, rfl, rfl, by decide +kernel, rfl, by decide +kernel, by decide +kernel⟩
theorem bind_show_clause : BindOk "show_clause" s_show_clause ps_show_clause := fun _ _ _ _ _ _ us hl => match us, hl with | [_], _ => rfl
def e_show_clause_1 : M D := (dIf (dTest (dName 2)) (dName 1) (mF (dBin addD (mB (M.pure (PyData.str "-"))) (dSlot 1))))
def g_show_clause : M Fl := (lCons (lRet (dIf (dTest (mF (dBin neD (dSlot 0) (mB (dTup (M.pure [])))))) (dRd "str" joinF (mB (M.pure (PyData.str " "))) (dCons (mF (dLc (gSeq (dName 0)) (tTup 2 (DL.tCons (tName 1) (DL.tCons (tName 2) DL.tNil))) yes e_show_clause_1 [1, 2])) (M.pure []))) (mO (M.pure (PyData.str "."))))) lNil)
def f_show_clause : DFn := runFn none 2 g_show_clause
theorem ok_show_clause (Z : Wz P w K mg base) : Cal P w K mg base 1 "show_clause" s_show_clause ps_show_clause none f_show_clause :=
  cal_of (m := 2) (Z.known 13) (Z.glo 13) sc_show_clause rfl bind_show_clause nofun fun cdv A outer s H E G =>
  (el_cons (es_ret (eo_if (et_cmp (op_neD G.u) (eb_name 0) (EvF.toB (ev_tup ea_nil)) (by rfl)) (eo_rd F.plainAttrs_str F.slot_str_join m_join (EvF.toB (ev_str (by decide +kernel))) (ea_cons (EvO.toF (eo_lcG (own := [("name", 1), ("truth", 2)]) G (it_any (ev_name 0)) (by first | rfl | decide +kernel) (fun _ _ _ _ _ G2 => (tg_tup G2.calm (tgs_cons (tg_name (i := 1) G2.nd) (tgs_cons (tg_name (i := 2) G2.nd) tgs_nil)))) (fun _ _ _ _ _ G2 => ets_nil) (fun _ _ _ _ _ G2 => (ev_if (et_val (ev_name 2)) (ev_name 1) (EvO.toF (eo_bin op_addD (EvF.toB (ev_str (by decide +kernel))) (eb_name 1))))))) ea_nil)) (EvF.toO (ev_str (by decide +kernel)))))
  el_nil)
def N_show_saying : List Str := ["saying", "picks", "owns", "clauses", "parts", "name", "sight", "clause"]
def ps_show_saying : List Str := ["saying"]
theorem sc_show_saying : FnScope N_show_saying ps_show_saying (defScope s_show_saying) := ⟨rfl, rfl, rfl, by decide +kernel, rfl, by decide +kernel, by decide +kernel⟩
theorem bind_show_saying : BindOk "show_saying" s_show_saying ps_show_saying := fun _ _ _ _ _ _ us hl => match us, hl with | [_], _ => rfl
def e_show_saying_2 : M D := (mF (dCall none 1 f_show_clause (dConsP (mB (dName 7)) (M.pure []))))
def e_show_saying_1 : M D := (mF (dBin addD (mB (dJoined (jCons (M.pure (PyData.str "own ")) (jCons (dFmt (dName 5)) (jCons (M.pure (PyData.str ": ")) jNil))))) (mB (mF (dCall none 1 f_words_of (dConsP (mB (dName 6)) (M.pure [])))))))
def g_show_saying : M Fl := (lCons (lAsg (dName 0) (tTup 3 (DL.tCons (tName 1) (DL.tCons (tName 2) (DL.tCons (tName 3) DL.tNil))))) (lCons (lSet 4 (dBin addD (mB (mF (dLst (dCons (mF (dBin addD (mB (M.pure (PyData.str "pick "))) (mB (mF (dCall none 1 f_words_of (dConsP (mB (dName 1)) (M.pure []))))))) (M.pure []))))) (mB (mF (dLc (gSeq (dName 2)) (tTup 2 (DL.tCons (tName 5) (DL.tCons (tName 6) DL.tNil))) yes e_show_saying_1 [5, 6]))))) (lCons (lRet (dRd "str" joinF (mB (M.pure (PyData.str " ; "))) (dCons (mF (dBin addD (dSlot 4) (mB (mF (dLc (gSeq (dName 3)) (tName 7) yes e_show_saying_2 [7]))))) (M.pure [])))) lNil)))
def f_show_saying : DFn := runFn none 7 g_show_saying
theorem ok_show_saying (Z : Wz P w K mg base) : Cal P w K mg base 2 "show_saying" s_show_saying ps_show_saying none f_show_saying :=
  cal_of (m := 7) (Z.known 14) (Z.glo 14) sc_show_saying rfl bind_show_saying nofun fun cdv A outer s H E G =>
  (el_cons (es_asg (ev_name 0) (tg_tup G.calm (tgs_cons (tg_name (i := 1) G.nd) (tgs_cons (tg_name (i := 2) G.nd) (tgs_cons (tg_name (i := 3) G.nd) tgs_nil)))))
  (el_cons (es_set (i := 4) G.nd (eo_bin op_addD (EvF.toB (EvO.toF (eo_lst (ea_cons (EvO.toF (eo_bin op_addD (EvF.toB (ev_str (by decide +kernel))) (EvF.toB (EvO.toF (eo_c (ok_words_of Z) G (by decide) (ep_cons (EvF.toB (ev_name 1)) ep_nil) (by rfl)))))) ea_nil)))) (EvF.toB (EvO.toF (eo_lcG (own := [("name", 5), ("sight", 6)]) G (it_any (ev_name 2)) (by first | rfl | decide +kernel) (fun _ _ _ _ _ G2 => (tg_tup G2.calm (tgs_cons (tg_name (i := 5) G2.nd) (tgs_cons (tg_name (i := 6) G2.nd) tgs_nil)))) (fun _ _ _ _ _ G2 => ets_nil) (fun _ _ _ _ _ G2 => (EvO.toF (eo_bin op_addD (EvF.toB (ev_joined (ej_cons (ev_str (by decide +kernel)) (ej_cons (ev_fmt (ev_name 5)) (ej_cons (ev_str (by decide +kernel)) ej_nil))))) (EvF.toB (EvO.toF (eo_c (ok_words_of Z) G2 (by decide) (ep_cons (EvF.toB (ev_name 6)) ep_nil) (by rfl))))))))))))
  (el_cons (es_ret (eo_rd F.plainAttrs_str F.slot_str_join m_join (EvF.toB (ev_str (by decide +kernel))) (ea_cons (EvO.toF (eo_bin op_addD (eb_name 4) (EvF.toB (EvO.toF (eo_lcG (own := [("clause", 7)]) G (it_any (ev_name 3)) (by first | rfl | decide +kernel) (fun _ _ _ _ _ G2 => (tg_name (i := 7) G2.nd)) (fun _ _ _ _ _ G2 => ets_nil) (fun _ _ _ _ _ G2 => (EvO.toF (eo_c (ok_show_clause Z) G2 (by decide) (ep_cons (EvF.toB (ev_name 7)) ep_nil) (by rfl))))))))) ea_nil)))
  el_nil)))
def N_letter_in : List Str := ["word"]
def ps_letter_in : List Str := ["word"]
theorem sc_letter_in : FnScope N_letter_in ps_letter_in (defScope s_letter_in) := ⟨rfl, rfl, rfl, by decide +kernel, rfl, by decide +kernel, by decide +kernel⟩
theorem bind_letter_in : BindOk "letter_in" s_letter_in ps_letter_in := fun _ _ _ _ _ _ us hl => match us, hl with | [_], _ => rfl
def g_letter_in : M Fl := (lCons (lRet (dIf (dTest (mF (dRd "str" startswithF (dSlot 0) (dCons (M.pure (PyData.str "-")) (M.pure []))))) (mO (dTup (dCons (mF (dSl slD (dSlot 0) (dPart (M.pure (PyData.int 1))) (M.pure none))) (dCons (M.pure (PyData.bool false)) (M.pure []))))) (mO (dTup (dCons (dName 0) (dCons (M.pure (PyData.bool true)) (M.pure []))))))) lNil)
def f_letter_in : DFn := runFn none 0 g_letter_in
theorem ok_letter_in (Z : Wz P w K mg base) : Cal P w K mg base 1 "letter_in" s_letter_in ps_letter_in none f_letter_in :=
  cal_of (m := 0) (Z.known 15) (Z.glo 15) sc_letter_in rfl bind_letter_in nofun fun cdv A outer s H E G =>
  (el_cons (es_ret (eo_if (et_val (EvO.toF (eo_rd F.plainAttrs_str F.slot_str_startswith m_startswith (eb_name 0) (ea_cons (ev_str (by decide +kernel)) ea_nil)))) (EvF.toO (ev_tup (ea_cons (EvO.toF (eo_sl sl_D (eb_name 0) (ei_some ev_int) ei_none)) (ea_cons ev_bl ea_nil)))) (EvF.toO (ev_tup (ea_cons (ev_name 0) (ea_cons ev_bl ea_nil))))))
  el_nil)
def N_clause_of : List Str := ["text", "word"]
def ps_clause_of : List Str := ["text"]
theorem sc_clause_of : FnScope N_clause_of ps_clause_of (defScope s_clause_of) := ⟨rfl, rfl, rfl, by decide +kernel, rfl, by decide +kernel, by decide +kernel⟩
theorem bind_clause_of : BindOk "clause_of" s_clause_of ps_clause_of := fun _ _ _ _ _ _ us hl => match us, hl with | [_], _ => rfl
def e_clause_of_1 : M D := (mF (dCall none 1 f_letter_in (dConsP (mB (dName 1)) (M.pure []))))
def g_clause_of : M Fl := (lCons (lRet (dIf (dTest (mF (dBin neD (dSlot 0) (mB (M.pure (PyData.str ".")))))) (dCallB tupleF (dConsP (mB (mF (dLc (gSeq (mF (dRd "str" splitF (dSlot 0) (dCons (M.pure (PyData.str " ")) (M.pure []))))) (tName 1) yes e_clause_of_1 [1]))) (M.pure []))) (mO (dTup (M.pure []))))) lNil)
def f_clause_of : DFn := runFn none 1 g_clause_of
theorem ok_clause_of (Z : Wz P w K mg base) : Cal P w K mg base 2 "clause_of" s_clause_of ps_clause_of none f_clause_of :=
  cal_of (m := 1) (Z.known 16) (Z.glo 16) sc_clause_of rfl bind_clause_of nofun fun cdv A outer s H E G =>
  (el_cons (es_ret (eo_if (et_cmp (op_neD G.u) (eb_name 0) (EvF.toB (ev_str (by decide +kernel))) (by rfl)) (eo_callTy c_tuple (by rfl) (Z.free 45) (by decide +kernel) (ep_cons (EvF.toB (EvO.toF (eo_lcG (own := [("word", 1)]) G (it_any (EvO.toF (eo_rd F.plainAttrs_str F.slot_str_split m_split (eb_name 0) (ea_cons (ev_str (by decide +kernel)) ea_nil)))) (by first | rfl | decide +kernel) (fun _ _ _ _ _ G2 => (tg_name (i := 1) G2.nd)) (fun _ _ _ _ _ G2 => ets_nil) (fun _ _ _ _ _ G2 => (EvO.toF (eo_c (ok_letter_in Z) G2 (by decide) (ep_cons (EvF.toB (ev_name 1)) ep_nil) (by rfl))))))) ep_nil)) (EvF.toO (ev_tup ea_nil))))
  el_nil)
def N_clause_in : List Str := ["text", "clause"]
def ps_clause_in : List Str := ["text"]
theorem sc_clause_in : FnScope N_clause_in ps_clause_in (defScope s_clause_in) := ⟨rfl, rfl, rfl, by decide +kernel, rfl, by decide +kernel, by decide +kernel⟩
theorem bind_clause_in : BindOk "clause_in" s_clause_in ps_clause_in := fun _ _ _ _ _ _ us hl => match us, hl with | [_], _ => rfl
def g_clause_in : M Fl := (lCons (lSet 1 (dCall none 1 f_clause_of (dConsP (mB (dName 0)) (M.pure [])))) (lCons (lRet (dIf (dAndT (dTest (mF (dCall none 1 f_is_any_clause (dConsP (mB (dName 1)) (M.pure []))))) (dTest (mF (dBin eqD (mB (mF (dCall none 1 f_show_clause (dConsP (mB (dName 1)) (M.pure []))))) (dSlot 0))))) (dMove 1) (mO (M.pure PyData.none)))) lNil))
def f_clause_in : DFn := runFn none 1 g_clause_in
theorem ok_clause_in (Z : Wz P w K mg base) : Cal P w K mg base 4 "clause_in" s_clause_in ps_clause_in none f_clause_in :=
  cal_of (m := 1) (Z.known 17) (Z.glo 17) sc_clause_in rfl bind_clause_in nofun fun cdv A outer s H E G =>
  (el_cons (es_set (i := 1) G.nd (eo_c (ok_clause_of Z) G (by decide) (ep_cons (EvF.toB (ev_name 0)) ep_nil) (by rfl)))
  (el_cons (es_ret (eo_if (EvW.t (ew_and (et_val (EvO.toF (eo_c (ok_is_any_clause Z) G (by decide) (ep_cons (EvF.toB (ev_name 1)) ep_nil) (by rfl)))) (ew_and1 (et_cmp (op_eqD G.u) (EvF.toB (EvO.toF (eo_c (ok_show_clause Z) G (by decide) (ep_cons (EvF.toB (ev_name 1)) ep_nil) (by rfl)))) (eb_name 0) (by rfl))))) (eo_move 1) (EvF.toO ev_non)))
  el_nil))
def N_names_of_text : List Str := ["text"]
def ps_names_of_text : List Str := ["text"]
theorem sc_names_of_text : FnScope N_names_of_text ps_names_of_text (defScope s_names_of_text) := ⟨rfl, rfl, rfl, by decide +kernel, rfl, by decide +kernel, by decide +kernel⟩
theorem bind_names_of_text : BindOk "names_of_text" s_names_of_text ps_names_of_text := fun _ _ _ _ _ _ us hl => match us, hl with | [_], _ => rfl
def g_names_of_text : M Fl := (lCons (lRet (dIf (dTest (mF (dBin neD (dSlot 0) (mB (M.pure (PyData.str "-")))))) (dCallB tupleF (dConsP (mB (mF (dRd "str" splitF (dSlot 0) (dCons (M.pure (PyData.str " ")) (M.pure []))))) (M.pure []))) (mO (dTup (M.pure []))))) lNil)
def f_names_of_text : DFn := runFn none 0 g_names_of_text
theorem ok_names_of_text (Z : Wz P w K mg base) : Cal P w K mg base 1 "names_of_text" s_names_of_text ps_names_of_text none f_names_of_text :=
  cal_of (m := 0) (Z.known 18) (Z.glo 18) sc_names_of_text rfl bind_names_of_text nofun fun cdv A outer s H E G =>
  (el_cons (es_ret (eo_if (et_cmp (op_neD G.u) (eb_name 0) (EvF.toB (ev_str (by decide +kernel))) (by rfl)) (eo_callTy c_tuple (by rfl) (Z.free 45) (by decide +kernel) (ep_cons (EvF.toB (EvO.toF (eo_rd F.plainAttrs_str F.slot_str_split m_split (eb_name 0) (ea_cons (ev_str (by decide +kernel)) ea_nil)))) ep_nil)) (EvF.toO (ev_tup ea_nil))))
  el_nil)
def N_own_of : List Str := ["part", "name", "sign", "sight"]
def ps_own_of : List Str := ["part"]
theorem sc_own_of : FnScope N_own_of ps_own_of (defScope s_own_of) := ⟨rfl, rfl, rfl, by decide +kernel, rfl, by decide +kernel, by decide +kernel⟩
theorem bind_own_of : BindOk "own_of" s_own_of ps_own_of := fun _ _ _ _ _ _ us hl => match us, hl with | [_], _ => rfl
def g_own_of : M Fl := (lCons (lAsg (mF (dRd "str" partitionF (mB (mF (dRd "str" removeprefixF (dSlot 0) (dCons (M.pure (PyData.str "own ")) (M.pure []))))) (dCons (M.pure (PyData.str ": ")) (M.pure [])))) (tTup 3 (DL.tCons (tName 1) (DL.tCons (tName 2) (DL.tCons (tName 3) DL.tNil))))) (lCons (lRet (mO (dTup (dCons (dName 1) (dCons (mF (dCall none 1 f_names_of_text (dConsP (mB (dName 3)) (M.pure [])))) (M.pure [])))))) lNil))
def f_own_of : DFn := runFn none 3 g_own_of
theorem ok_own_of (Z : Wz P w K mg base) : Cal P w K mg base 2 "own_of" s_own_of ps_own_of none f_own_of :=
  cal_of (m := 3) (Z.known 19) (Z.glo 19) sc_own_of rfl bind_own_of nofun fun cdv A outer s H E G =>
  (el_cons (es_asg (EvO.toF (eo_rd F.plainAttrs_str F.slot_str_partition m_partition (EvF.toB (EvO.toF (eo_rd F.plainAttrs_str F.slot_str_removeprefix m_removeprefix (eb_name 0) (ea_cons (ev_str (by decide +kernel)) ea_nil)))) (ea_cons (ev_str (by decide +kernel)) ea_nil))) (tg_tup G.calm (tgs_cons (tg_name (i := 1) G.nd) (tgs_cons (tg_name (i := 2) G.nd) (tgs_cons (tg_name (i := 3) G.nd) tgs_nil)))))
  (el_cons (es_ret (EvF.toO (ev_tup (ea_cons (ev_name 1) (ea_cons (EvO.toF (eo_c (ok_names_of_text Z) G (by decide) (ep_cons (EvF.toB (ev_name 3)) ep_nil) (by rfl))) ea_nil)))))
  el_nil))
def N_saying_in : List Str := ["text", "parts", "owns", "clauses", "saying", "part"]
def ps_saying_in : List Str := ["text"]
theorem sc_saying_in : FnScope N_saying_in ps_saying_in (defScope s_saying_in) := ⟨rfl, rfl, rfl, by decide +kernel, rfl, by decide +kernel, by decide +kernel⟩
theorem bind_saying_in : BindOk "saying_in" s_saying_in ps_saying_in := fun _ _ _ _ _ _ us hl => match us, hl with | [_], _ => rfl
def e_saying_in_2 : M D := (mF (dCall none 1 f_clause_of (dConsP (mB (dName 5)) (M.pure []))))
def q_saying_in_2 : M Bool := (dTest (mF (dBin notInD (mB (M.pure (PyData.str ":"))) (dSlot 5))))
def e_saying_in_1 : M D := (mF (dCall none 1 f_own_of (dConsP (mB (dName 5)) (M.pure []))))
def q_saying_in_1 : M Bool := (dTest (mF (dBin inD (mB (M.pure (PyData.str ":"))) (dSlot 5))))
def g_saying_in : M Fl := (lCons (lSet 1 (dRd "str" splitF (dSlot 0) (dCons (M.pure (PyData.str " ; ")) (M.pure [])))) (lCons (lSet 2 (dCallB tupleF (dConsP (mB (mF (dLc (gSeq (mF (dSl slD (dSlot 1) (dPart (M.pure (PyData.int 1))) (M.pure none)))) (tName 5) q_saying_in_1 e_saying_in_1 [5]))) (M.pure [])))) (lCons (lSet 3 (dCallB tupleF (dConsP (mB (mF (dLc (gSeq (mF (dSl slD (dSlot 1) (dPart (M.pure (PyData.int 1))) (M.pure none)))) (tName 5) q_saying_in_2 e_saying_in_2 [5]))) (M.pure [])))) (lCons (lSet 4 (mO (dTup (dCons (mF (dCall none 1 f_names_of_text (dConsP (mB (mF (dRd "str" removeprefixF (mB (mF (dBin ixD (dSlot 1) (mB (M.pure (PyData.int 0)))))) (dCons (M.pure (PyData.str "pick ")) (M.pure []))))) (M.pure [])))) (dCons (dName 2) (dCons (dName 3) (M.pure []))))))) (lCons (lRet (dIf (dAndT (dTest (mF (dCall none 1 f_is_a_saying (dConsP (mB (dName 4)) (M.pure []))))) (dTest (mF (dBin eqD (mB (mF (dCall none 1 f_show_saying (dConsP (mB (dName 4)) (M.pure []))))) (dSlot 0))))) (dMove 4) (mO (M.pure PyData.none)))) lNil)))))
def f_saying_in : DFn := runFn none 5 g_saying_in
theorem ok_saying_in (Z : Wz P w K mg base) : Cal P w K mg base 6 "saying_in" s_saying_in ps_saying_in none f_saying_in :=
  cal_of (m := 5) (Z.known 20) (Z.glo 20) sc_saying_in rfl bind_saying_in nofun fun cdv A outer s H E G =>
  (el_cons (es_set (i := 1) G.nd (eo_rd F.plainAttrs_str F.slot_str_split m_split (eb_name 0) (ea_cons (ev_str (by decide +kernel)) ea_nil)))
  (el_cons (es_set (i := 2) G.nd (eo_callTy c_tuple (by rfl) (Z.free 45) (by decide +kernel) (ep_cons (EvF.toB (EvO.toF (eo_lcG (own := [("part", 5)]) G (it_any (EvO.toF (eo_sl sl_D (eb_name 1) (ei_some ev_int) ei_none))) (by first | rfl | decide +kernel) (fun _ _ _ _ _ G2 => (tg_name (i := 5) G2.nd)) (fun _ _ _ _ _ G2 => (ets_one (et_cmp (op_inD' G2.u) (EvF.toB (ev_str (by decide +kernel))) (eb_name 5) (by rfl)))) (fun _ _ _ _ _ G2 => (EvO.toF (eo_c (ok_own_of Z) G2 (by decide) (ep_cons (EvF.toB (ev_name 5)) ep_nil) (by rfl))))))) ep_nil)))
  (el_cons (es_set (i := 3) G.nd (eo_callTy c_tuple (by rfl) (Z.free 45) (by decide +kernel) (ep_cons (EvF.toB (EvO.toF (eo_lcG (own := [("part", 5)]) G (it_any (EvO.toF (eo_sl sl_D (eb_name 1) (ei_some ev_int) ei_none))) (by first | rfl | decide +kernel) (fun _ _ _ _ _ G2 => (tg_name (i := 5) G2.nd)) (fun _ _ _ _ _ G2 => (ets_one (et_cmp (op_notInD' G2.u) (EvF.toB (ev_str (by decide +kernel))) (eb_name 5) (by rfl)))) (fun _ _ _ _ _ G2 => (EvO.toF (eo_c (ok_clause_of Z) G2 (by decide) (ep_cons (EvF.toB (ev_name 5)) ep_nil) (by rfl))))))) ep_nil)))
  (el_cons (es_set (i := 4) G.nd (EvF.toO (ev_tup (ea_cons (EvO.toF (eo_c (ok_names_of_text Z) G (by decide) (ep_cons (EvF.toB (EvO.toF (eo_rd F.plainAttrs_str F.slot_str_removeprefix m_removeprefix (EvF.toB (EvO.toF (eo_ix ix_D (eb_name 1) (EvF.toB ev_int) (fun _ _ => by rfl)))) (ea_cons (ev_str (by decide +kernel)) ea_nil)))) ep_nil) (by rfl))) (ea_cons (ev_name 2) (ea_cons (ev_name 3) ea_nil))))))
  (el_cons (es_ret (eo_if (EvW.t (ew_and (et_val (EvO.toF (eo_c (ok_is_a_saying Z) G (by decide) (ep_cons (EvF.toB (ev_name 4)) ep_nil) (by rfl)))) (ew_and1 (et_cmp (op_eqD G.u) (EvF.toB (EvO.toF (eo_c (ok_show_saying Z) G (by decide) (ep_cons (EvF.toB (ev_name 4)) ep_nil) (by rfl)))) (eb_name 0) (by rfl))))) (eo_move 4) (EvF.toO ev_non)))
  el_nil)))))
def N_read_saying : List Str := ["text", "saying"]
def ps_read_saying : List Str := ["text"]
theorem sc_read_saying : FnScope N_read_saying ps_read_saying (defScope s_read_saying) := ⟨rfl, rfl, rfl, by decide +kernel, rfl, by decide +kernel, by decide +kernel⟩
theorem bind_read_saying : BindOk "read_saying" s_read_saying ps_read_saying := fun _ _ _ _ _ _ us hl => match us, hl with | [_], _ => rfl
theorem bind_read_saying_text (kV doc pm : Value) (an : Option Addr) (cdv ct : Value) (ws : List Value) (hl : (permL [0] ws).length = ps_read_saying.length) : bindArgs (PySem.W.fnOf "read_saying" "read_saying" (defArgs s_read_saying) (defBody s_read_saying) (defScope s_read_saying) .none kV doc pm an cdv ct) ⟨[], (["text"] : List Str).zip ws⟩ = pure (ps_read_saying.zip (permL [0] ws)) := by
  match ws, hl with
  | [_], _ => rfl
  | [], hl => cases hl
  | _ :: _ :: _, hl => rfl
def g_read_saying : M Fl := (lCons (lSet 1 (dIf (dTest (dIsi "str" (dSlot 0))) (dCall none 1 f_saying_in (dConsP (mB (dName 0)) (M.pure []))) (mO (M.pure PyData.none)))) (lCons (lIf (dTest (mF (dBin isD (dSlot 1) (mB (M.pure PyData.none))))) (lCons (lRaise "Unreadable" (mF (dCall none 1 (f_anew 8) (dConsP (mB (dName 0)) (M.pure []))))) lNil) lNil) (lCons (lRet (dMove 1)) lNil)))
def f_read_saying : DFn := runFn none 1 g_read_saying
theorem ok_read_saying (Z : Wz P w K mg base) : Cal P w K mg base 10 "read_saying" s_read_saying ps_read_saying none f_read_saying :=
  cal_of (m := 1) (Z.known 21) (Z.glo 21) sc_read_saying rfl bind_read_saying nofun fun cdv A outer s H E G =>
  (el_cons (es_set (i := 1) G.nd (eo_if (et_val (ev_isi (eb_name 0) (by rfl) (Z.free 36) (by rfl) (Z.free 42) (by decide +kernel) (by decide +kernel))) (eo_c (ok_saying_in Z) G (by decide) (ep_cons (EvF.toB (ev_name 0)) ep_nil) (by rfl)) (EvF.toO ev_non)))
  (el_cons (es_if (et_cmp op_isD (eb_name 1) (EvF.toB ev_non) (by rfl))
  (el_cons (es_raise G (by decide) Z.ex (by decide +kernel) (EvO.toF (eo_c (ok_anew Z) G (by decide) (ep_cons (EvF.toB (ev_name 0)) ep_nil) (by rfl))) (by rfl))
  el_nil)
  el_nil)
  (el_cons (es_ret (eo_move 1))
  el_nil)))
def N_read_clause : List Str := ["text", "clause"]
def ps_read_clause : List Str := ["text"]
theorem sc_read_clause : FnScope N_read_clause ps_read_clause (defScope s_read_clause) := ⟨rfl, rfl, rfl, by decide +kernel, rfl, by decide +kernel, by decide +kernel⟩
theorem bind_read_clause : BindOk "read_clause" s_read_clause ps_read_clause := fun _ _ _ _ _ _ us hl => match us, hl with | [_], _ => rfl
theorem bind_read_clause_text (kV doc pm : Value) (an : Option Addr) (cdv ct : Value) (ws : List Value) (hl : (permL [0] ws).length = ps_read_clause.length) : bindArgs (PySem.W.fnOf "read_clause" "read_clause" (defArgs s_read_clause) (defBody s_read_clause) (defScope s_read_clause) .none kV doc pm an cdv ct) ⟨[], (["text"] : List Str).zip ws⟩ = pure (ps_read_clause.zip (permL [0] ws)) := by
  match ws, hl with
  | [_], _ => rfl
  | [], hl => cases hl
  | _ :: _ :: _, hl => rfl
def g_read_clause : M Fl := (lCons (lSet 1 (dIf (dTest (dIsi "str" (dSlot 0))) (dCall none 1 f_clause_in (dConsP (mB (dName 0)) (M.pure []))) (mO (M.pure PyData.none)))) (lCons (lIf (dTest (mF (dBin isD (dSlot 1) (mB (M.pure PyData.none))))) (lCons (lRaise "Unreadable" (mF (dCall none 1 (f_anew 8) (dConsP (mB (dName 0)) (M.pure []))))) lNil) lNil) (lCons (lRet (dMove 1)) lNil)))
def f_read_clause : DFn := runFn none 1 g_read_clause
theorem ok_read_clause (Z : Wz P w K mg base) : Cal P w K mg base 10 "read_clause" s_read_clause ps_read_clause none f_read_clause :=
  cal_of (m := 1) (Z.known 22) (Z.glo 22) sc_read_clause rfl bind_read_clause nofun fun cdv A outer s H E G =>
  (el_cons (es_set (i := 1) G.nd (eo_if (et_val (ev_isi (eb_name 0) (by rfl) (Z.free 36) (by rfl) (Z.free 42) (by decide +kernel) (by decide +kernel))) (eo_c (ok_clause_in Z) G (by decide) (ep_cons (EvF.toB (ev_name 0)) ep_nil) (by rfl)) (EvF.toO ev_non)))
  (el_cons (es_if (et_cmp op_isD (eb_name 1) (EvF.toB ev_non) (by rfl))
  (el_cons (es_raise G (by decide) Z.ex (by decide +kernel) (EvO.toF (eo_c (ok_anew Z) G (by decide) (ep_cons (EvF.toB (ev_name 0)) ep_nil) (by rfl))) (by rfl))
  el_nil)
  el_nil)
  (el_cons (es_ret (eo_move 1))
  el_nil)))
def N__law_seed : List Str := ["script"]
def ps__law_seed : List Str := ["script"]
theorem sc__law_seed : FnScope N__law_seed ps__law_seed (defScope s__law_seed) := ⟨rfl, rfl, rfl, by decide +kernel, rfl, by decide +kernel, by decide +kernel⟩
theorem bind__law_seed : BindOk "_law_seed" s__law_seed ps__law_seed := fun _ _ _ _ _ _ us hl => match us, hl with | [_], _ => rfl
def g__law_seed : M Fl := (lCons (lRet (dLst (dCons (mF (dCallB tupleF (dConsP (dSlot 0) (M.pure [])))) (dCons (M.pure (PyData.int 0)) (dCons (M.pure (PyData.int 0)) (M.pure [])))))) lNil)
def f__law_seed : DFn := runFn none 0 g__law_seed
theorem ok__law_seed (Z : Wz P w K mg base) : Cal P w K mg base 1 "_law_seed" s__law_seed ps__law_seed none f__law_seed :=
  cal_of (m := 0) (Z.known 23) (Z.glo 23) sc__law_seed rfl bind__law_seed nofun fun cdv A outer s H E G =>
  (el_cons (es_ret (eo_lst (ea_cons (EvO.toF (eo_callTy c_tuple (by rfl) (Z.free 45) (by decide +kernel) (ep_cons (eb_name 0) ep_nil))) (ea_cons ev_int (ea_cons ev_int ea_nil)))))
  el_nil)
def N__law_any : List Str := ["seed", "many", "part", "turn", "cell", "mixed"]
def ps__law_any : List Str := ["seed", "many"]
theorem sc__law_any : FnScope N__law_any ps__law_any (defScope s__law_any) := ⟨rfl, rfl, rfl, by decide +kernel, rfl, by decide +kernel, by decide +kernel⟩
theorem bind__law_any : BindOk "_law_any" s__law_any ps__law_any := fun _ _ _ _ _ _ us hl => match us, hl with | [_, _], _ => rfl
def g__law_any : M Fl := (lCons (lIf (dTest (mF (dBin ltD (dSlot 1) (mB (M.pure (PyData.int 2)))))) (lCons (lRet (mO (M.pure (PyData.int 0)))) lNil) lNil) (lCons (lIf (dTest (mF (dBin gtD (mB (mF (dBin ixD (dSlot 0) (mB (M.pure (PyData.int 2)))))) (mB (M.pure (PyData.int 0)))))) (lCons (lAsg (dTup (dCons (mF (dBin modD (mB (mF (dCallB intF (dConsP (mB (mF (dBin ixD (dSlot 0) (mB (M.pure (PyData.int 2)))))) (M.pure []))))) (dSlot 1))) (dCons (mF (dBin fdivD (mB (mF (dBin ixD (dSlot 0) (mB (M.pure (PyData.int 2)))))) (dSlot 1))) (M.pure [])))) (tTup 2 (DL.tCons (tName 2) (DL.tCons (tSub (dSlot 0) (M.pure (PyData.int 2))) DL.tNil)))) (lCons (lRet (dMove 2)) lNil)) lNil) (lCons (lAsg (mF (dBin addD (mB (mF (dBin ixD (dSlot 0) (mB (M.pure (PyData.int 1)))))) (mB (M.pure (PyData.int 1))))) (tSub (dSlot 0) (M.pure (PyData.int 1)))) (lCons (lSet 3 (dBin ixD (dSlot 0) (mB (M.pure (PyData.int 1))))) (lCons (lSet 4 (dIf (dTest (mF (dBin gtD (mB (mF (dCallB lenF (dConsP (mB (mF (dBin ixD (dSlot 0) (mB (M.pure (PyData.int 0)))))) (M.pure []))))) (mB (M.pure (PyData.int 0)))))) (dBin ixD (mB (mF (dBin ixD (dSlot 0) (mB (M.pure (PyData.int 0)))))) (mB (mF (dBin modD (mB (mF (dCallB intF (dConsP (mB (mF (dBin subD (dSlot 3) (mB (M.pure (PyData.int 1)))))) (M.pure []))))) (mB (mF (dCallB lenF (dConsP (mB (mF (dBin ixD (dSlot 0) (mB (M.pure (PyData.int 0)))))) (M.pure []))))))))) (mO (M.pure (PyData.int 0))))) (lCons (lIf (dAndT (dTest (mF (dBin leD (dSlot 3) (mB (mF (dCallB lenF (dConsP (mB (mF (dBin ixD (dSlot 0) (mB (M.pure (PyData.int 0)))))) (M.pure [])))))))) (dTest (mF (dBin geD (dSlot 4) (mB (mF (dBin powD (mB (M.pure (PyData.int 10))) (mB (M.pure (PyData.int 18)))))))))) (lCons (lAsg (mF (dBin fdivD (dSlot 4) (dSlot 1))) (tSub (dSlot 0) (M.pure (PyData.int 2)))) (lCons (lRet (dBin modD (mB (mF (dCallB intF (dConsP (dSlot 4) (M.pure []))))) (dSlot 1))) lNil)) lNil) (lCons (lSet 5 (dBin modD (mB (mF (dCallB intF (dConsP (mB (mF (dBin mulD (mB (mF (dBin addD (mB (mF (dBin modD (mB (mF (dCallB intF (dConsP (dSlot 4) (M.pure []))))) (mB (M.pure (PyData.int 999999937)))))) (mB (mF (dBin mulD (mB (M.pure (PyData.int 101))) (dSlot 3))))))) (mB (M.pure (PyData.int 630360016)))))) (M.pure []))))) (mB (M.pure (PyData.int 2147483647))))) (lCons (lSet 5 (dBin modD (mB (mF (dCallB intF (dConsP (mB (mF (dBin addD (mB (mF (dBin mulD (dSlot 5) (dSlot 5)))) (mB (mF (dBin mulD (dSlot 3) (mB (M.pure (PyData.int 62089911))))))))) (M.pure []))))) (mB (M.pure (PyData.int 2147483629))))) (lCons (lSet 5 (dBin modD (mB (mF (dCallB intF (dConsP (mB (mF (dBin mulD (mB (mF (dBin addD (dSlot 5) (dSlot 3)))) (mB (mF (dBin addD (mB (mF (dBin addD (dSlot 5) (mB (mF (dBin mulD (mB (M.pure (PyData.int 3))) (dSlot 3))))))) (mB (M.pure (PyData.int 1))))))))) (M.pure []))))) (mB (M.pure (PyData.int 999999937))))) (lCons (lRet (dBin modD (mB (mF (dCallB intF (dConsP (mB (mF (dBin fdivD (dSlot 5) (mB (M.pure (PyData.int 8)))))) (M.pure []))))) (dSlot 1))) lNil))))))))))
def f__law_any : DFn := runFn (some 0) 4 g__law_any
theorem ok__law_any (Z : Wz P w K mg base) : Cal P w K mg base 1 "_law_any" s__law_any ps__law_any (some 0) f__law_any :=
  cal_of (m := 4) (Z.known 24) (Z.glo 24) sc__law_any rfl bind__law_any (fun i e => by cases e; decide) fun cdv A outer s H E G =>
  (el_cons (es_if (et_cmp (op_ltD G.u) (eb_name 1) (EvF.toB ev_int) (by rfl))
  (el_cons (es_ret (EvF.toO ev_int))
  el_nil)
  el_nil)
  (el_cons (es_if (et_cmp (op_gtD G.u) (EvF.toB (EvO.toF (eo_ix ix_D (eb_name 0) (EvF.toB ev_int) (fun _ _ => by rfl)))) (EvF.toB ev_int) (by rfl))
  (el_cons (es_asg (ev_tup (ea_cons (EvO.toF (eo_bin op_modD (EvF.toB (EvO.toF (eo_callTy c_int (by rfl) (Z.free 35) (by decide +kernel) (ep_cons (EvF.toB (EvO.toF (eo_ix ix_D (eb_name 0) (EvF.toB ev_int) (fun _ _ => by rfl)))) ep_nil)))) (eb_name 1))) (ea_cons (EvO.toF (eo_bin op_fdivD (EvF.toB (EvO.toF (eo_ix ix_D (eb_name 0) (EvF.toB ev_int) (fun _ _ => by rfl)))) (eb_name 1))) ea_nil))) (tg_tup G.calm (tgs_cons (tg_name (i := 2) G.nd) (tgs_cons (tg_sub (eb_name 0) ev_int) tgs_nil))))
  (el_cons (es_ret (eo_move 2))
  el_nil))
  el_nil)
  (el_cons (es_asg (EvO.toF (eo_bin op_addD (EvF.toB (EvO.toF (eo_ix ix_D (eb_name 0) (EvF.toB ev_int) (fun _ _ => by rfl)))) (EvF.toB ev_int))) (tg_sub (eb_name 0) ev_int))
  (el_cons (es_set (i := 3) G.nd (eo_ix ix_D (eb_name 0) (EvF.toB ev_int) (fun _ _ => by rfl)))
  (el_cons (es_set (i := 4) G.nd (eo_if (et_cmp (op_gtD G.u) (EvF.toB (EvO.toF (eo_callB c_len (by rfl) (Z.free 37) (by decide +kernel) (ep_cons (EvF.toB (EvO.toF (eo_ix ix_D (eb_name 0) (EvF.toB ev_int) (fun _ _ => by rfl)))) ep_nil)))) (EvF.toB ev_int) (by rfl)) (eo_ix ix_D (EvF.toB (EvO.toF (eo_ix ix_D (eb_name 0) (EvF.toB ev_int) (fun _ _ => by rfl)))) (EvF.toB (EvO.toF (eo_bin op_modD (EvF.toB (EvO.toF (eo_callTy c_int (by rfl) (Z.free 35) (by decide +kernel) (ep_cons (EvF.toB (EvO.toF (eo_bin op_subD (eb_name 3) (EvF.toB ev_int)))) ep_nil)))) (EvF.toB (EvO.toF (eo_callB c_len (by rfl) (Z.free 37) (by decide +kernel) (ep_cons (EvF.toB (EvO.toF (eo_ix ix_D (eb_name 0) (EvF.toB ev_int) (fun _ _ => by rfl)))) ep_nil))))))) (fun _ _ => by rfl)) (EvF.toO ev_int)))
  (el_cons (es_if (EvW.t (ew_and (et_cmp (op_leD G.u) (eb_name 3) (EvF.toB (EvO.toF (eo_callB c_len (by rfl) (Z.free 37) (by decide +kernel) (ep_cons (EvF.toB (EvO.toF (eo_ix ix_D (eb_name 0) (EvF.toB ev_int) (fun _ _ => by rfl)))) ep_nil)))) (by rfl)) (ew_and1 (et_cmp (op_geD G.u) (eb_name 4) (EvF.toB (EvO.toF (eo_bin op_powD (EvF.toB ev_int) (EvF.toB ev_int)))) (by rfl)))))
  (el_cons (es_asg (EvO.toF (eo_bin op_fdivD (eb_name 4) (eb_name 1))) (tg_sub (eb_name 0) ev_int))
  (el_cons (es_ret (eo_bin op_modD (EvF.toB (EvO.toF (eo_callTy c_int (by rfl) (Z.free 35) (by decide +kernel) (ep_cons (eb_name 4) ep_nil)))) (eb_name 1)))
  el_nil))
  el_nil)
  (el_cons (es_set (i := 5) G.nd (eo_bin op_modD (EvF.toB (EvO.toF (eo_callTy c_int (by rfl) (Z.free 35) (by decide +kernel) (ep_cons (EvF.toB (EvO.toF (eo_bin op_mulD (EvF.toB (EvO.toF (eo_bin op_addD (EvF.toB (EvO.toF (eo_bin op_modD (EvF.toB (EvO.toF (eo_callTy c_int (by rfl) (Z.free 35) (by decide +kernel) (ep_cons (eb_name 4) ep_nil)))) (EvF.toB ev_int)))) (EvF.toB (EvO.toF (eo_bin op_mulD (EvF.toB ev_int) (eb_name 3))))))) (EvF.toB ev_int)))) ep_nil)))) (EvF.toB ev_int)))
  (el_cons (es_set (i := 5) G.nd (eo_bin op_modD (EvF.toB (EvO.toF (eo_callTy c_int (by rfl) (Z.free 35) (by decide +kernel) (ep_cons (EvF.toB (EvO.toF (eo_bin op_addD (EvF.toB (EvO.toF (eo_bin op_mulD (eb_name 5) (eb_name 5)))) (EvF.toB (EvO.toF (eo_bin op_mulD (eb_name 3) (EvF.toB ev_int))))))) ep_nil)))) (EvF.toB ev_int)))
  (el_cons (es_set (i := 5) G.nd (eo_bin op_modD (EvF.toB (EvO.toF (eo_callTy c_int (by rfl) (Z.free 35) (by decide +kernel) (ep_cons (EvF.toB (EvO.toF (eo_bin op_mulD (EvF.toB (EvO.toF (eo_bin op_addD (eb_name 5) (eb_name 3)))) (EvF.toB (EvO.toF (eo_bin op_addD (EvF.toB (EvO.toF (eo_bin op_addD (eb_name 5) (EvF.toB (EvO.toF (eo_bin op_mulD (EvF.toB ev_int) (eb_name 3))))))) (EvF.toB ev_int))))))) ep_nil)))) (EvF.toB ev_int)))
  (el_cons (es_ret (eo_bin op_modD (EvF.toB (EvO.toF (eo_callTy c_int (by rfl) (Z.free 35) (by decide +kernel) (ep_cons (EvF.toB (EvO.toF (eo_bin op_fdivD (eb_name 5) (EvF.toB ev_int)))) ep_nil)))) (eb_name 1)))
  el_nil))))))))))
def N__law_one_of : List Str := ["seed", "items"]
def ps__law_one_of : List Str := ["seed", "items"]
theorem sc__law_one_of : FnScope N__law_one_of ps__law_one_of (defScope s__law_one_of) := ⟨rfl, rfl, rfl, by decide +kernel, rfl, by decide +kernel, by decide +kernel⟩
theorem bind__law_one_of : BindOk "_law_one_of" s__law_one_of ps__law_one_of := fun _ _ _ _ _ _ us hl => match us, hl with | [_, _], _ => rfl
def g__law_one_of : M Fl := (lCons (lRet (dBin ixD (dSlot 1) (mB (mF (dCall (some 0) 2 f__law_any (dConsP (dSlot 0) (dConsP (mB (mF (dCallB lenF (dConsP (dSlot 1) (M.pure []))))) (M.pure [])))))))) lNil)
def f__law_one_of : DFn := runFn (some 0) 0 g__law_one_of
theorem ok__law_one_of (Z : Wz P w K mg base) : Cal P w K mg base 2 "_law_one_of" s__law_one_of ps__law_one_of (some 0) f__law_one_of :=
  cal_of (m := 0) (Z.known 25) (Z.glo 25) sc__law_one_of rfl bind__law_one_of (fun i e => by cases e; decide) fun cdv A outer s H E G =>
  (el_cons (es_ret (eo_ix ix_D (eb_name 1) (EvF.toB (EvO.toF (eo_c (ok__law_any Z) G (by decide) (ep_cons (eb_name 0) (ep_cons (EvF.toB (EvO.toF (eo_callB c_len (by rfl) (Z.free 37) (by decide +kernel) (ep_cons (eb_name 1) ep_nil)))) ep_nil)) (by rfl)))) (fun _ _ => by rfl)))
  el_nil)
def N__law_bits : List Str := ["many", "found", "turn", "longer", "row"]
def ps__law_bits : List Str := ["many"]
theorem sc__law_bits : FnScope N__law_bits ps__law_bits (defScope s__law_bits) := ⟨rfl, rfl, rfl, by decide +kernel, rfl, by decide +kernel, by decide +kernel⟩
theorem bind__law_bits : BindOk "_law_bits" s__law_bits ps__law_bits := fun _ _ _ _ _ _ us hl => match us, hl with | [_], _ => rfl
def b__law_bits_2 : M Fl := (lCons (lDrop (dMeth extendF (dSlot 3) (dCons (mF (dLst (dCons (mF (dBin addD (dSlot 4) (mB (dTup (dCons (M.pure (PyData.bool false)) (M.pure [])))))) (dCons (mF (dBin addD (dSlot 4) (mB (dTup (dCons (M.pure (PyData.bool true)) (M.pure [])))))) (M.pure []))))) (M.pure [])))) lNil)
def b__law_bits_1 : M Fl := (lCons (lSet 3 (dLst (M.pure []))) (lCons (lFor (gSeq (dName 1)) (tName 4) b__law_bits_2) (lCons (lSet 1 (mO (dName 3))) lNil)))
def g__law_bits : M Fl := (lCons (lSet 1 (dLst (dCons (dTup (M.pure [])) (M.pure [])))) (lCons (lFor (gRng1 (dCons (dName 0) (M.pure []))) (tName 2) b__law_bits_1) (lCons (lRet (dMove 1)) lNil)))
def f__law_bits : DFn := runFn none 4 g__law_bits
theorem ok__law_bits (Z : Wz P w K mg base) : Cal P w K mg base 1 "_law_bits" s__law_bits ps__law_bits none f__law_bits :=
  cal_of (m := 4) (Z.known 26) (Z.glo 26) sc__law_bits rfl bind__law_bits nofun fun cdv A outer s H E G =>
  (el_cons (es_set (i := 1) G.nd (eo_lst (ea_cons (ev_tup ea_nil) ea_nil)))
  (el_cons (es_for G (it_rng1 (ea_cons (ev_name 0) ea_nil) (by rfl) (Z.free 39)) (tg_name (i := 2) G.nd)
  (el_cons (es_set (i := 3) G.nd (eo_lst ea_nil))
  (el_cons (es_for G (it_any (ev_name 1)) (tg_name (i := 4) G.nd)
  (el_cons (es_expr (eo_meth m_extend F.slot_list_extend (eb_name 3) (ea_cons (EvO.toF (eo_lst (ea_cons (EvO.toF (eo_bin op_addD (eb_name 4) (EvF.toB (ev_tup (ea_cons ev_bl ea_nil))))) (ea_cons (EvO.toF (eo_bin op_addD (eb_name 4) (EvF.toB (ev_tup (ea_cons ev_bl ea_nil))))) ea_nil)))) ea_nil)))
  el_nil))
  (el_cons (es_set (i := 1) G.nd (EvF.toO (ev_name 3)))
  el_nil))))
  (el_cons (es_ret (eo_move 1))
  el_nil)))
def N__law_word : List Str := ["clause", "name", "truth"]
def ps__law_word : List Str := ["clause"]
theorem sc__law_word : FnScope N__law_word ps__law_word (defScope s__law_word) := ⟨rfl, rfl, rfl, by decide +kernel, rfl, by decide +kernel, by decide +kernel⟩
theorem bind__law_word : BindOk "_law_word" s__law_word ps__law_word := fun _ _ _ _ _ _ us hl => match us, hl with | [_], _ => rfl
def e__law_word_1 : M D := (dIf (dTest (dName 2)) (dName 1) (mF (dBin addD (mB (M.pure (PyData.str "-"))) (dSlot 1))))
def g__law_word : M Fl := (lCons (lRet (dIf (dTest (mF (dBin neD (dSlot 0) (mB (dTup (M.pure [])))))) (dRd "str" joinF (mB (M.pure (PyData.str " "))) (dCons (mF (dLc (gSeq (dName 0)) (tTup 2 (DL.tCons (tName 1) (DL.tCons (tName 2) DL.tNil))) yes e__law_word_1 [1, 2])) (M.pure []))) (mO (M.pure (PyData.str "."))))) lNil)
def f__law_word : DFn := runFn none 2 g__law_word
theorem ok__law_word (Z : Wz P w K mg base) : Cal P w K mg base 1 "_law_word" s__law_word ps__law_word none f__law_word :=
  cal_of (m := 2) (Z.known 27) (Z.glo 27) sc__law_word rfl bind__law_word nofun fun cdv A outer s H E G =>
  (el_cons (es_ret (eo_if (et_cmp (op_neD G.u) (eb_name 0) (EvF.toB (ev_tup ea_nil)) (by rfl)) (eo_rd F.plainAttrs_str F.slot_str_join m_join (EvF.toB (ev_str (by decide +kernel))) (ea_cons (EvO.toF (eo_lcG (own := [("name", 1), ("truth", 2)]) G (it_any (ev_name 0)) (by first | rfl | decide +kernel) (fun _ _ _ _ _ G2 => (tg_tup G2.calm (tgs_cons (tg_name (i := 1) G2.nd) (tgs_cons (tg_name (i := 2) G2.nd) tgs_nil)))) (fun _ _ _ _ _ G2 => ets_nil) (fun _ _ _ _ _ G2 => (ev_if (et_val (ev_name 2)) (ev_name 1) (EvO.toF (eo_bin op_addD (EvF.toB (ev_str (by decide +kernel))) (eb_name 1))))))) ea_nil)) (EvF.toO (ev_str (by decide +kernel)))))
  el_nil)
def N__law_read : List Str := ["way", "text", "told", "e"]
def ps__law_read : List Str := ["way", "text"]
theorem sc__law_read : FnScope N__law_read ps__law_read (defScope s__law_read) := ⟨rfl, rfl, rfl, by decide +kernel, rfl, by decide +kernel, by decide +kernel⟩
theorem bind__law_read : BindOk "_law_read" s__law_read ps__law_read := fun _ _ _ _ _ _ us hl => match us, hl with | [_, _], _ => rfl
def g__law_read : M Fl := (lCons (lSet 2 (mO (M.pure PyData.none))) (lCons (lTry xs "SightError" 3 (lCons (lSet 2 (dIf (dTest (mF (dBin eqD (dSlot 0) (mB (M.pure (PyData.int 0)))))) (dLst (dCons (mF (dCall none 1 f_read_saying (dConsP (mB (dName 1)) (M.pure [])))) (M.pure []))) (dIf (dTest (mF (dBin eqD (dSlot 0) (mB (M.pure (PyData.int 1)))))) (dLst (dCons (mF (dCallK [0] 1 f_read_saying (dCons (dName 1) (M.pure [])))) (M.pure []))) (dIf (dTest (mF (dBin eqD (dSlot 0) (mB (M.pure (PyData.int 2)))))) (dLst (dCons (mF (dCall none 1 f_read_clause (dConsP (mB (dName 1)) (M.pure [])))) (M.pure []))) (dLst (dCons (mF (dCallK [0] 1 f_read_clause (dCons (dName 1) (M.pure [])))) (M.pure []))))))) lNil) (lCons (lSet 2 (mO (dTup (dCons (dXis xs "Unreadable" 3) (dCons (dXval xs 3) (M.pure [])))))) lNil)) (lCons (lRet (dMove 2)) lNil)))
def f__law_read : DFn := runFn none 2 g__law_read
theorem ok__law_read (Z : Wz P w K mg base) : Cal P w K mg base 11 "_law_read" s__law_read ps__law_read none f__law_read :=
  cal_of (m := 2) (Z.known 28) (Z.glo 28) sc__law_read rfl bind__law_read nofun fun cdv A outer s H E G =>
  (el_cons (es_set (i := 2) G.nd (EvF.toO ev_non))
  (el_cons (es_try G (by rfl) (by rfl) Z.ex (by decide +kernel) (fun _ _ _ G3 => (el_cons (es_set (i := 2) G3.nd (eo_if (et_cmp (op_eqD G3.u) (eb_name 0) (EvF.toB ev_int) (by rfl)) (eo_lst (ea_cons (EvO.toF (eo_c (ok_read_saying Z) G3 (by decide) (ep_cons (EvF.toB (ev_name 1)) ep_nil) (by rfl))) ea_nil)) (eo_if (et_cmp (op_eqD G3.u) (eb_name 0) (EvF.toB ev_int) (by rfl)) (eo_lst (ea_cons (EvO.toF (eo_ck (ix := [0]) (ok_read_saying Z) G3 (by decide) (ek_cons (ev_name 1) ek_nil) (fun _ _ _ _ _ _ ws hl => bind_read_saying_text _ _ _ _ _ _ ws hl) (by rfl))) ea_nil)) (eo_if (et_cmp (op_eqD G3.u) (eb_name 0) (EvF.toB ev_int) (by rfl)) (eo_lst (ea_cons (EvO.toF (eo_c (ok_read_clause Z) G3 (by decide) (ep_cons (EvF.toB (ev_name 1)) ep_nil) (by rfl))) ea_nil)) (eo_lst (ea_cons (EvO.toF (eo_ck (ix := [0]) (ok_read_clause Z) G3 (by decide) (ek_cons (ev_name 1) ek_nil) (fun _ _ _ _ _ _ ws hl => bind_read_clause_text _ _ _ _ _ _ ws hl) (by rfl))) ea_nil))))))
  el_nil)) (fun _ _ _ _ _ hz hv => (el_cons (es_set (i := 2) G.nd (EvF.toO (ev_tup (ea_cons (ev_xis Z.ex hz hv 3 (by decide +kernel) (by rfl) (Z.free 36) (by rfl)) (ea_cons (ev_xval Z.ex hz hv 3) ea_nil)))))
  el_nil)) (by rfl))
  (el_cons (es_ret (eo_move 2))
  el_nil)))
def N__law_odd_sayings : List Str := ["found", "owns", "name"]
def ps__law_odd_sayings : List Str := []
theorem sc__law_odd_sayings : FnScope N__law_odd_sayings ps__law_odd_sayings (defScope s__law_odd_sayings) := ⟨rfl, rfl, rfl, by decide +kernel, rfl, by decide +kernel, by decide +kernel⟩
theorem bind__law_odd_sayings : BindOk "_law_odd_sayings" s__law_odd_sayings ps__law_odd_sayings := fun _ _ _ _ _ _ us hl => match us, hl with | [], _ => rfl
def e__law_odd_sayings_2 : M D := (mF (dBin addD (mB (mF (dBin addD (mB (M.pure (PyData.str "own "))) (dSlot 2)))) (mB (M.pure (PyData.str ": -")))))
def e__law_odd_sayings_1 : M D := (mF (dBin addD (mB (mF (dBin addD (mB (M.pure (PyData.str "own "))) (dSlot 2)))) (mB (M.pure (PyData.str ": a b c d e f")))))
def g__law_odd_sayings : M Fl := (lCons (lSet 0 (dLst (dCons (M.pure (PyData.str "")) (dCons (M.pure (PyData.str "pick")) (dCons (M.pure (PyData.str "pick ")) (dCons (M.pure (PyData.str "pick x ")) (dCons (M.pure (PyData.str " pick x")) (dCons (M.pure (PyData.str "Pick x")) (dCons (M.pure (PyData.str "picks x")) (dCons (M.pure (PyData.str "pick  x")) (dCons (M.pure (PyData.str "pick x  y")) (dCons (M.pure (PyData.str "pick y x")) (dCons (M.pure (PyData.str "pick x x")) (dCons (M.pure (PyData.str "pick X")) (dCons (M.pure (PyData.str "pick x1")) (M.pure [])))))))))))))))) (lCons (lSet 0 (dBin addD (dSlot 0) (mB (mF (dLst (dCons (M.pure (PyData.str "pick abcdefghi")) (dCons (M.pure (PyData.str "pick -x")) (dCons (M.pure (PyData.str "pick x -")) (dCons (M.pure (PyData.str "pick .")) (dCons (M.pure (PyData.str "pick - -")) (M.pure []))))))))))) (lCons (lSet 0 (dBin addD (dSlot 0) (mB (mF (dLst (dCons (M.pure (PyData.str "pick x;own a: -")) (dCons (M.pure (PyData.str "pick x ; own a:")) (dCons (M.pure (PyData.str "pick x ; own a: ")) (dCons (M.pure (PyData.str "pick x ; own a -")) (dCons (M.pure (PyData.str "pick x ; own a : -")) (dCons (M.pure (PyData.str "pick x ; own a: x x")) (M.pure [])))))))))))) (lCons (lSet 0 (dBin addD (dSlot 0) (mB (mF (dLst (dCons (M.pure (PyData.str "pick x y ; own a: y x")) (dCons (M.pure (PyData.str "pick x ; own a: y")) (dCons (M.pure (PyData.str "pick x ; own x: -")) (dCons (M.pure (PyData.str "pick x ; own : -")) (M.pure [])))))))))) (lCons (lSet 0 (dBin addD (dSlot 0) (mB (mF (dLst (dCons (M.pure (PyData.str "pick x ; own A: -")) (dCons (M.pure (PyData.str "pick x ; own b: - ; own a: -")) (dCons (M.pure (PyData.str "pick x ; own a: - ; own a: -")) (dCons (M.pure (PyData.str "pick x ; Own a: -")) (dCons (M.pure (PyData.str "pick x ; own abcdefghi: -")) (M.pure []))))))))))) (lCons (lSet 0 (dBin addD (dSlot 0) (mB (mF (dLst (dCons (M.pure (PyData.str "pick x ; own a: .")) (dCons (M.pure (PyData.str "own a: - ; pick x")) (dCons (M.pure (PyData.str "pick x ; a ; own a: -")) (M.pure []))))))))) (lCons (lSet 0 (dBin addD (dSlot 0) (mB (mF (dLst (dCons (M.pure (PyData.str "pick x ; ")) (dCons (M.pure (PyData.str "pick x ;")) (dCons (M.pure (PyData.str "pick x ; ;")) (dCons (M.pure (PyData.str "pick x ; y")) (dCons (M.pure (PyData.str "pick x ; -")) (dCons (M.pure (PyData.str "pick x ; --x")) (dCons (M.pure (PyData.str "pick x ; - x")) (dCons (M.pure (PyData.str "pick x ; x x")) (dCons (M.pure (PyData.str "pick x ; x -x")) (M.pure []))))))))))))))) (lCons (lSet 0 (dBin addD (dSlot 0) (mB (mF (dLst (dCons (M.pure (PyData.str "pick x ; . ; .")) (dCons (M.pure (PyData.str "pick x ; x ; x")) (dCons (M.pure (PyData.str "pick x ; x ; -x")) (dCons (M.pure (PyData.str "pick x ; x ; .")) (dCons (M.pure (PyData.str "pick x ; .x")) (M.pure []))))))))))) (lCons (lSet 0 (dBin addD (dSlot 0) (mB (mF (dLst (dCons (M.pure (PyData.str "pick x y ; y x")) (dCons (M.pure (PyData.str "pick x y ; y ; x")) (dCons (M.pure (PyData.str "pick x ; x.")) (dCons (M.pure (PyData.str "pick x ; . x")) (dCons (M.pure (PyData.str "pick x ; x ; x y")) (dCons (M.pure (PyData.str "pick x\n")) (dCons (M.pure (PyData.str "pick x ; x  ")) (dCons (M.pure (PyData.str "pick x  ; x")) (M.pure [])))))))))))))) (lCons (lSet 0 (dBin addD (dSlot 0) (mB (mF (dLst (dCons (M.pure (PyData.str "pick x ;  x")) (dCons (M.pure (PyData.str "pick x y ; x  y")) (dCons (M.pure (PyData.str "-")) (dCons (M.pure (PyData.str ".")) (dCons (M.pure (PyData.str "x")) (dCons (M.pure (PyData.str "own a: -")) (M.pure [])))))))))))) (lCons (lSet 1 (dLc (gSeq (dTup (dCons (M.pure (PyData.str "y")) (dCons (M.pure (PyData.str "z")) (M.pure []))))) (tName 2) yes e__law_odd_sayings_1 [2])) (lCons (lDrop (dMeth appendF (dSlot 0) (dCons (mF (dRd "str" joinF (mB (M.pure (PyData.str " ; "))) (dCons (mF (dLst (dCons (M.pure (PyData.str "pick a b c d e f g")) (M.pure [])))) (M.pure [])))) (M.pure [])))) (lCons (lDrop (dMeth appendF (dSlot 0) (dCons (mF (dRd "str" joinF (mB (M.pure (PyData.str " ; "))) (dCons (mF (dBin addD (mB (mF (dLst (dCons (M.pure (PyData.str "pick a b c d e f")) (M.pure []))))) (dSlot 1))) (M.pure [])))) (M.pure [])))) (lCons (lDrop (dMeth appendF (dSlot 0) (dCons (mF (dRd "str" joinF (mB (M.pure (PyData.str " ; "))) (dCons (mF (dBin addD (mB (mF (dLst (dCons (M.pure (PyData.str "pick -")) (M.pure []))))) (mB (mF (dLc (gSeq (M.pure (PyData.str "abcdefghi"))) (tName 2) yes e__law_odd_sayings_2 [2]))))) (M.pure [])))) (M.pure [])))) (lCons (lRet (dBin addD (dSlot 0) (mB (mF (dLst (dCons (mF (dRd "str" joinF (mB (M.pure (PyData.str " ; "))) (dCons (mF (dBin addD (mB (mF (dLst (dCons (M.pure (PyData.str "pick a b c d e f")) (M.pure []))))) (mB (mF (dLst (dCons (M.pure (PyData.str "own y: a b c d e f")) (dCons (M.pure (PyData.str "own ya: a b c d e")) (dCons (M.pure (PyData.str "own yb: a b c d")) (dCons (M.pure (PyData.str "own yc: a b c")) (dCons (M.pure (PyData.str "own yd: -")) (M.pure []))))))))))) (M.pure [])))) (M.pure []))))))) lNil)))))))))))))))
def f__law_odd_sayings : DFn := runFn none 3 g__law_odd_sayings
theorem ok__law_odd_sayings (Z : Wz P w K mg base) : Cal P w K mg base 1 "_law_odd_sayings" s__law_odd_sayings ps__law_odd_sayings none f__law_odd_sayings :=
  cal_of (m := 3) (Z.known 29) (Z.glo 29) sc__law_odd_sayings rfl bind__law_odd_sayings nofun fun cdv A outer s H E G =>
  (el_cons (es_set (i := 0) G.nd (eo_lst (ea_cons (ev_str (by decide +kernel)) (ea_cons (ev_str (by decide +kernel)) (ea_cons (ev_str (by decide +kernel)) (ea_cons (ev_str (by decide +kernel)) (ea_cons (ev_str (by decide +kernel)) (ea_cons (ev_str (by decide +kernel)) (ea_cons (ev_str (by decide +kernel)) (ea_cons (ev_str (by decide +kernel)) (ea_cons (ev_str (by decide +kernel)) (ea_cons (ev_str (by decide +kernel)) (ea_cons (ev_str (by decide +kernel)) (ea_cons (ev_str (by decide +kernel)) (ea_cons (ev_str (by decide +kernel)) ea_nil)))))))))))))))
  (el_cons (es_set (i := 0) G.nd (eo_bin op_addD (eb_name 0) (EvF.toB (EvO.toF (eo_lst (ea_cons (ev_str (by decide +kernel)) (ea_cons (ev_str (by decide +kernel)) (ea_cons (ev_str (by decide +kernel)) (ea_cons (ev_str (by decide +kernel)) (ea_cons (ev_str (by decide +kernel)) ea_nil))))))))))
  (el_cons (es_set (i := 0) G.nd (eo_bin op_addD (eb_name 0) (EvF.toB (EvO.toF (eo_lst (ea_cons (ev_str (by decide +kernel)) (ea_cons (ev_str (by decide +kernel)) (ea_cons (ev_str (by decide +kernel)) (ea_cons (ev_str (by decide +kernel)) (ea_cons (ev_str (by decide +kernel)) (ea_cons (ev_str (by decide +kernel)) ea_nil)))))))))))
  (el_cons (es_set (i := 0) G.nd (eo_bin op_addD (eb_name 0) (EvF.toB (EvO.toF (eo_lst (ea_cons (ev_str (by decide +kernel)) (ea_cons (ev_str (by decide +kernel)) (ea_cons (ev_str (by decide +kernel)) (ea_cons (ev_str (by decide +kernel)) ea_nil)))))))))
  (el_cons (es_set (i := 0) G.nd (eo_bin op_addD (eb_name 0) (EvF.toB (EvO.toF (eo_lst (ea_cons (ev_str (by decide +kernel)) (ea_cons (ev_str (by decide +kernel)) (ea_cons (ev_str (by decide +kernel)) (ea_cons (ev_str (by decide +kernel)) (ea_cons (ev_str (by decide +kernel)) ea_nil))))))))))
  (el_cons (es_set (i := 0) G.nd (eo_bin op_addD (eb_name 0) (EvF.toB (EvO.toF (eo_lst (ea_cons (ev_str (by decide +kernel)) (ea_cons (ev_str (by decide +kernel)) (ea_cons (ev_str (by decide +kernel)) ea_nil))))))))
  (el_cons (es_set (i := 0) G.nd (eo_bin op_addD (eb_name 0) (EvF.toB (EvO.toF (eo_lst (ea_cons (ev_str (by decide +kernel)) (ea_cons (ev_str (by decide +kernel)) (ea_cons (ev_str (by decide +kernel)) (ea_cons (ev_str (by decide +kernel)) (ea_cons (ev_str (by decide +kernel)) (ea_cons (ev_str (by decide +kernel)) (ea_cons (ev_str (by decide +kernel)) (ea_cons (ev_str (by decide +kernel)) (ea_cons (ev_str (by decide +kernel)) ea_nil))))))))))))))
  (el_cons (es_set (i := 0) G.nd (eo_bin op_addD (eb_name 0) (EvF.toB (EvO.toF (eo_lst (ea_cons (ev_str (by decide +kernel)) (ea_cons (ev_str (by decide +kernel)) (ea_cons (ev_str (by decide +kernel)) (ea_cons (ev_str (by decide +kernel)) (ea_cons (ev_str (by decide +kernel)) ea_nil))))))))))
  (el_cons (es_set (i := 0) G.nd (eo_bin op_addD (eb_name 0) (EvF.toB (EvO.toF (eo_lst (ea_cons (ev_str (by decide +kernel)) (ea_cons (ev_str (by decide +kernel)) (ea_cons (ev_str (by decide +kernel)) (ea_cons (ev_str (by decide +kernel)) (ea_cons (ev_str (by decide +kernel)) (ea_cons (ev_str (by decide +kernel)) (ea_cons (ev_str (by decide +kernel)) (ea_cons (ev_str (by decide +kernel)) ea_nil)))))))))))))
  (el_cons (es_set (i := 0) G.nd (eo_bin op_addD (eb_name 0) (EvF.toB (EvO.toF (eo_lst (ea_cons (ev_str (by decide +kernel)) (ea_cons (ev_str (by decide +kernel)) (ea_cons (ev_str (by decide +kernel)) (ea_cons (ev_str (by decide +kernel)) (ea_cons (ev_str (by decide +kernel)) (ea_cons (ev_str (by decide +kernel)) ea_nil)))))))))))
  (el_cons (by first | exact (es_setLcG (i := 1) (own := [("name", 2)]) G (it_any (ev_tup (ea_cons (ev_str (by decide +kernel)) (ea_cons (ev_str (by decide +kernel)) ea_nil)))) (by first | rfl | decide +kernel) (fun _ _ _ _ _ G2 => (tg_name (i := 2) G2.nd)) (fun _ _ _ _ _ G2 => ets_nil) (fun _ _ _ _ _ G2 => (EvO.toF (eo_bin op_addD (EvF.toB (EvO.toF (eo_bin op_addD (EvF.toB (ev_str (by decide +kernel))) (eb_name 2)))) (EvF.toB (ev_str (by decide +kernel))))))) | exact (es_set (i := 1) G.nd (eo_lcG (own := [("name", 2)]) G (it_any (ev_tup (ea_cons (ev_str (by decide +kernel)) (ea_cons (ev_str (by decide +kernel)) ea_nil)))) (by first | rfl | decide +kernel) (fun _ _ _ _ _ G2 => (tg_name (i := 2) G2.nd)) (fun _ _ _ _ _ G2 => ets_nil) (fun _ _ _ _ _ G2 => (EvO.toF (eo_bin op_addD (EvF.toB (EvO.toF (eo_bin op_addD (EvF.toB (ev_str (by decide +kernel))) (eb_name 2)))) (EvF.toB (ev_str (by decide +kernel)))))))))
  (el_cons (es_expr (eo_meth m_append F.slot_list_append (eb_name 0) (ea_cons (EvO.toF (eo_rd F.plainAttrs_str F.slot_str_join m_join (EvF.toB (ev_str (by decide +kernel))) (ea_cons (EvO.toF (eo_lst (ea_cons (ev_str (by decide +kernel)) ea_nil))) ea_nil))) ea_nil)))
  (el_cons (es_expr (eo_meth m_append F.slot_list_append (eb_name 0) (ea_cons (EvO.toF (eo_rd F.plainAttrs_str F.slot_str_join m_join (EvF.toB (ev_str (by decide +kernel))) (ea_cons (EvO.toF (eo_bin op_addD (EvF.toB (EvO.toF (eo_lst (ea_cons (ev_str (by decide +kernel)) ea_nil)))) (eb_name 1))) ea_nil))) ea_nil)))
  (el_cons (es_expr (eo_meth m_append F.slot_list_append (eb_name 0) (ea_cons (EvO.toF (eo_rd F.plainAttrs_str F.slot_str_join m_join (EvF.toB (ev_str (by decide +kernel))) (ea_cons (EvO.toF (eo_bin op_addD (EvF.toB (EvO.toF (eo_lst (ea_cons (ev_str (by decide +kernel)) ea_nil)))) (EvF.toB (EvO.toF (eo_lcG (own := [("name", 2)]) G (it_any (ev_str (by decide +kernel))) (by first | rfl | decide +kernel) (fun _ _ _ _ _ G2 => (tg_name (i := 2) G2.nd)) (fun _ _ _ _ _ G2 => ets_nil) (fun _ _ _ _ _ G2 => (EvO.toF (eo_bin op_addD (EvF.toB (EvO.toF (eo_bin op_addD (EvF.toB (ev_str (by decide +kernel))) (eb_name 2)))) (EvF.toB (ev_str (by decide +kernel))))))))))) ea_nil))) ea_nil)))
  (el_cons (es_ret (eo_bin op_addD (eb_name 0) (EvF.toB (EvO.toF (eo_lst (ea_cons (EvO.toF (eo_rd F.plainAttrs_str F.slot_str_join m_join (EvF.toB (ev_str (by decide +kernel))) (ea_cons (EvO.toF (eo_bin op_addD (EvF.toB (EvO.toF (eo_lst (ea_cons (ev_str (by decide +kernel)) ea_nil)))) (EvF.toB (EvO.toF (eo_lst (ea_cons (ev_str (by decide +kernel)) (ea_cons (ev_str (by decide +kernel)) (ea_cons (ev_str (by decide +kernel)) (ea_cons (ev_str (by decide +kernel)) (ea_cons (ev_str (by decide +kernel)) ea_nil)))))))))) ea_nil))) ea_nil))))))
  el_nil)))))))))))))))
def N__law_fine_sayings : List Str := ["picks", "found", "eight", "great", "name", "text", "own", "sight"]
def ps__law_fine_sayings : List Str := []
theorem sc__law_fine_sayings : FnScope N__law_fine_sayings ps__law_fine_sayings (defScope s__law_fine_sayings) := ⟨rfl, rfl, rfl, by decide +kernel, rfl, by decide +kernel, by decide +kernel⟩
theorem bind__law_fine_sayings : BindOk "_law_fine_sayings" s__law_fine_sayings ps__law_fine_sayings := fun _ _ _ _ _ _ us hl => match us, hl with | [], _ => rfl
def e__law_fine_sayings_4 : M D := (mF (dBin addD (mB (mF (dBin addD (mB (mF (dBin addD (mB (M.pure (PyData.str "own "))) (dSlot 4)))) (mB (M.pure (PyData.str ": ")))))) (mB (mF (dRd "str" joinF (mB (M.pure (PyData.str " "))) (dCons (dName 7) (M.pure [])))))))
def e__law_fine_sayings_3 : M D := (dName 6)
def e__law_fine_sayings_2 : M D := (dName 5)
def e__law_fine_sayings_1 : M D := (dTup (dCons (mF (dBin addD (mB (mF (dBin addD (mB (M.pure (PyData.str "own "))) (dSlot 4)))) (mB (M.pure (PyData.str ": -"))))) (dCons (dTup (dCons (dName 4) (dCons (dTup (M.pure [])) (M.pure [])))) (M.pure []))))
def g__law_fine_sayings : M Fl := (lCons (lSet 0 (mO (dTup (dCons (M.pure (PyData.str "a")) (dCons (M.pure (PyData.str "b")) (dCons (M.pure (PyData.str "c")) (dCons (M.pure (PyData.str "d")) (dCons (M.pure (PyData.str "e")) (dCons (M.pure (PyData.str "f")) (M.pure [])))))))))) (lCons (lSet 1 (dLst (dCons (dTup (dCons (M.pure (PyData.str "pick -")) (dCons (dTup (dCons (dTup (M.pure [])) (dCons (dTup (M.pure [])) (dCons (dTup (M.pure [])) (M.pure []))))) (M.pure [])))) (dCons (dTup (dCons (M.pure (PyData.str "pick - ; .")) (dCons (dTup (dCons (dTup (M.pure [])) (dCons (dTup (M.pure [])) (dCons (dTup (dCons (dTup (M.pure [])) (M.pure []))) (M.pure []))))) (M.pure [])))) (dCons (dTup (dCons (M.pure (PyData.str "pick a b c d e f")) (dCons (dTup (dCons (dName 0) (dCons (dTup (M.pure [])) (dCons (dTup (M.pure [])) (M.pure []))))) (M.pure [])))) (dCons (dTup (dCons (M.pure (PyData.str "pick abcdefgh")) (dCons (dTup (dCons (dTup (dCons (M.pure (PyData.str "abcdefgh")) (M.pure []))) (dCons (dTup (M.pure [])) (dCons (dTup (M.pure [])) (M.pure []))))) (M.pure [])))) (M.pure []))))))) (lCons (lDrop (dMeth appendF (dSlot 1) (dCons (dTup (dCons (M.pure (PyData.str "pick x ; . ; -x ; x")) (dCons (dTup (dCons (dTup (dCons (M.pure (PyData.str "x")) (M.pure []))) (dCons (dTup (M.pure [])) (dCons (dTup (dCons (dTup (M.pure [])) (dCons (dTup (dCons (dTup (dCons (M.pure (PyData.str "x")) (dCons (M.pure (PyData.bool false)) (M.pure [])))) (M.pure []))) (dCons (dTup (dCons (dTup (dCons (M.pure (PyData.str "x")) (dCons (M.pure (PyData.bool true)) (M.pure [])))) (M.pure []))) (M.pure []))))) (M.pure []))))) (M.pure [])))) (M.pure [])))) (lCons (lDrop (dMeth appendF (dSlot 1) (dCons (dTup (dCons (M.pure (PyData.str "pick own ; own pick: own ; -own pick")) (dCons (dTup (dCons (dTup (dCons (M.pure (PyData.str "own")) (M.pure []))) (dCons (dTup (dCons (dTup (dCons (M.pure (PyData.str "pick")) (dCons (dTup (dCons (M.pure (PyData.str "own")) (M.pure []))) (M.pure [])))) (M.pure []))) (dCons (dTup (dCons (dTup (dCons (dTup (dCons (M.pure (PyData.str "own")) (dCons (M.pure (PyData.bool false)) (M.pure [])))) (dCons (dTup (dCons (M.pure (PyData.str "pick")) (dCons (M.pure (PyData.bool true)) (M.pure [])))) (M.pure [])))) (M.pure []))) (M.pure []))))) (M.pure [])))) (M.pure [])))) (lCons (lDrop (dMeth appendF (dSlot 1) (dCons (dTup (dCons (M.pure (PyData.str "pick pick ; own own: - ; own ; pick")) (dCons (dTup (dCons (dTup (dCons (M.pure (PyData.str "pick")) (M.pure []))) (dCons (dTup (dCons (dTup (dCons (M.pure (PyData.str "own")) (dCons (dTup (M.pure [])) (M.pure [])))) (M.pure []))) (dCons (dTup (dCons (dTup (dCons (dTup (dCons (M.pure (PyData.str "own")) (dCons (M.pure (PyData.bool true)) (M.pure [])))) (M.pure []))) (dCons (dTup (dCons (dTup (dCons (M.pure (PyData.str "pick")) (dCons (M.pure (PyData.bool true)) (M.pure [])))) (M.pure []))) (M.pure [])))) (M.pure []))))) (M.pure [])))) (M.pure [])))) (lCons (lSet 2 (dLc (gSeq (M.pure (PyData.str "abcdefgh"))) (tName 4) yes e__law_fine_sayings_1 [4])) (lCons (lDrop (dMeth appendF (dSlot 1) (dCons (dTup (dCons (mF (dRd "str" joinF (mB (M.pure (PyData.str " ; "))) (dCons (mF (dBin addD (mB (mF (dLst (dCons (M.pure (PyData.str "pick -")) (M.pure []))))) (mB (mF (dLc (gSeq (dName 2)) (tTup 2 (DL.tCons (tName 5) (DL.tCons (tName 6) DL.tNil))) yes e__law_fine_sayings_2 [5, 6]))))) (M.pure [])))) (dCons (dTup (dCons (dTup (M.pure [])) (dCons (mF (dCallB tupleF (dConsP (mB (mF (dLc (gSeq (dName 2)) (tTup 2 (DL.tCons (tName 5) (DL.tCons (tName 6) DL.tNil))) yes e__law_fine_sayings_3 [5, 6]))) (M.pure [])))) (dCons (dTup (M.pure [])) (M.pure []))))) (M.pure [])))) (M.pure [])))) (lCons (lSet 3 (dLst (dCons (dTup (dCons (M.pure (PyData.str "y")) (dCons (dName 0) (M.pure [])))) (dCons (dTup (dCons (M.pure (PyData.str "ya")) (dCons (mF (dSl slD (dSlot 0) (M.pure none) (dPart (M.pure (PyData.int 5))))) (M.pure [])))) (dCons (dTup (dCons (M.pure (PyData.str "yb")) (dCons (mF (dSl slD (dSlot 0) (M.pure none) (dPart (M.pure (PyData.int 4))))) (M.pure [])))) (dCons (dTup (dCons (M.pure (PyData.str "yc")) (dCons (mF (dSl slD (dSlot 0) (M.pure none) (dPart (M.pure (PyData.int 3))))) (M.pure [])))) (M.pure []))))))) (lCons (lDrop (dMeth appendF (dSlot 1) (dCons (dTup (dCons (mF (dRd "str" joinF (mB (M.pure (PyData.str " ; "))) (dCons (mF (dBin addD (mB (mF (dLst (dCons (M.pure (PyData.str "pick a b c d e f")) (M.pure []))))) (mB (mF (dLc (gSeq (dName 3)) (tTup 2 (DL.tCons (tName 4) (DL.tCons (tName 7) DL.tNil))) yes e__law_fine_sayings_4 [4, 7]))))) (M.pure [])))) (dCons (dTup (dCons (dName 0) (dCons (mF (dCallB tupleF (dConsP (dSlot 3) (M.pure [])))) (dCons (dTup (M.pure [])) (M.pure []))))) (M.pure [])))) (M.pure [])))) (lCons (lRet (dMove 1)) lNil))))))))))
def f__law_fine_sayings : DFn := runFn none 8 g__law_fine_sayings
theorem ok__law_fine_sayings (Z : Wz P w K mg base) : Cal P w K mg base 1 "_law_fine_sayings" s__law_fine_sayings ps__law_fine_sayings none f__law_fine_sayings :=
  cal_of (m := 8) (Z.known 30) (Z.glo 30) sc__law_fine_sayings rfl bind__law_fine_sayings nofun fun cdv A outer s H E G =>
  (el_cons (es_set (i := 0) G.nd (EvF.toO (ev_tup (ea_cons (ev_str (by decide +kernel)) (ea_cons (ev_str (by decide +kernel)) (ea_cons (ev_str (by decide +kernel)) (ea_cons (ev_str (by decide +kernel)) (ea_cons (ev_str (by decide +kernel)) (ea_cons (ev_str (by decide +kernel)) ea_nil)))))))))
  (el_cons (es_set (i := 1) G.nd (eo_lst (ea_cons (ev_tup (ea_cons (ev_str (by decide +kernel)) (ea_cons (ev_tup (ea_cons (ev_tup ea_nil) (ea_cons (ev_tup ea_nil) (ea_cons (ev_tup ea_nil) ea_nil)))) ea_nil))) (ea_cons (ev_tup (ea_cons (ev_str (by decide +kernel)) (ea_cons (ev_tup (ea_cons (ev_tup ea_nil) (ea_cons (ev_tup ea_nil) (ea_cons (ev_tup (ea_cons (ev_tup ea_nil) ea_nil)) ea_nil)))) ea_nil))) (ea_cons (ev_tup (ea_cons (ev_str (by decide +kernel)) (ea_cons (ev_tup (ea_cons (ev_name 0) (ea_cons (ev_tup ea_nil) (ea_cons (ev_tup ea_nil) ea_nil)))) ea_nil))) (ea_cons (ev_tup (ea_cons (ev_str (by decide +kernel)) (ea_cons (ev_tup (ea_cons (ev_tup (ea_cons (ev_str (by decide +kernel)) ea_nil)) (ea_cons (ev_tup ea_nil) (ea_cons (ev_tup ea_nil) ea_nil)))) ea_nil))) ea_nil))))))
  (el_cons (es_expr (eo_meth m_append F.slot_list_append (eb_name 1) (ea_cons (ev_tup (ea_cons (ev_str (by decide +kernel)) (ea_cons (ev_tup (ea_cons (ev_tup (ea_cons (ev_str (by decide +kernel)) ea_nil)) (ea_cons (ev_tup ea_nil) (ea_cons (ev_tup (ea_cons (ev_tup ea_nil) (ea_cons (ev_tup (ea_cons (ev_tup (ea_cons (ev_str (by decide +kernel)) (ea_cons ev_bl ea_nil))) ea_nil)) (ea_cons (ev_tup (ea_cons (ev_tup (ea_cons (ev_str (by decide +kernel)) (ea_cons ev_bl ea_nil))) ea_nil)) ea_nil)))) ea_nil)))) ea_nil))) ea_nil)))
  (el_cons (es_expr (eo_meth m_append F.slot_list_append (eb_name 1) (ea_cons (ev_tup (ea_cons (ev_str (by decide +kernel)) (ea_cons (ev_tup (ea_cons (ev_tup (ea_cons (ev_str (by decide +kernel)) ea_nil)) (ea_cons (ev_tup (ea_cons (ev_tup (ea_cons (ev_str (by decide +kernel)) (ea_cons (ev_tup (ea_cons (ev_str (by decide +kernel)) ea_nil)) ea_nil))) ea_nil)) (ea_cons (ev_tup (ea_cons (ev_tup (ea_cons (ev_tup (ea_cons (ev_str (by decide +kernel)) (ea_cons ev_bl ea_nil))) (ea_cons (ev_tup (ea_cons (ev_str (by decide +kernel)) (ea_cons ev_bl ea_nil))) ea_nil))) ea_nil)) ea_nil)))) ea_nil))) ea_nil)))
  (el_cons (es_expr (eo_meth m_append F.slot_list_append (eb_name 1) (ea_cons (ev_tup (ea_cons (ev_str (by decide +kernel)) (ea_cons (ev_tup (ea_cons (ev_tup (ea_cons (ev_str (by decide +kernel)) ea_nil)) (ea_cons (ev_tup (ea_cons (ev_tup (ea_cons (ev_str (by decide +kernel)) (ea_cons (ev_tup ea_nil) ea_nil))) ea_nil)) (ea_cons (ev_tup (ea_cons (ev_tup (ea_cons (ev_tup (ea_cons (ev_str (by decide +kernel)) (ea_cons ev_bl ea_nil))) ea_nil)) (ea_cons (ev_tup (ea_cons (ev_tup (ea_cons (ev_str (by decide +kernel)) (ea_cons ev_bl ea_nil))) ea_nil)) ea_nil))) ea_nil)))) ea_nil))) ea_nil)))
  (el_cons (by first | exact (es_setLcG (i := 2) (own := [("name", 4)]) G (it_any (ev_str (by decide +kernel))) (by first | rfl | decide +kernel) (fun _ _ _ _ _ G2 => (tg_name (i := 4) G2.nd)) (fun _ _ _ _ _ G2 => ets_nil) (fun _ _ _ _ _ G2 => (ev_tup (ea_cons (EvO.toF (eo_bin op_addD (EvF.toB (EvO.toF (eo_bin op_addD (EvF.toB (ev_str (by decide +kernel))) (eb_name 4)))) (EvF.toB (ev_str (by decide +kernel))))) (ea_cons (ev_tup (ea_cons (ev_name 4) (ea_cons (ev_tup ea_nil) ea_nil))) ea_nil))))) | exact (es_set (i := 2) G.nd (eo_lcG (own := [("name", 4)]) G (it_any (ev_str (by decide +kernel))) (by first | rfl | decide +kernel) (fun _ _ _ _ _ G2 => (tg_name (i := 4) G2.nd)) (fun _ _ _ _ _ G2 => ets_nil) (fun _ _ _ _ _ G2 => (ev_tup (ea_cons (EvO.toF (eo_bin op_addD (EvF.toB (EvO.toF (eo_bin op_addD (EvF.toB (ev_str (by decide +kernel))) (eb_name 4)))) (EvF.toB (ev_str (by decide +kernel))))) (ea_cons (ev_tup (ea_cons (ev_name 4) (ea_cons (ev_tup ea_nil) ea_nil))) ea_nil)))))))
  (el_cons (es_expr (eo_meth m_append F.slot_list_append (eb_name 1) (ea_cons (ev_tup (ea_cons (EvO.toF (eo_rd F.plainAttrs_str F.slot_str_join m_join (EvF.toB (ev_str (by decide +kernel))) (ea_cons (EvO.toF (eo_bin op_addD (EvF.toB (EvO.toF (eo_lst (ea_cons (ev_str (by decide +kernel)) ea_nil)))) (EvF.toB (EvO.toF (eo_lcG (own := [("text", 5), ("own", 6)]) G (it_any (ev_name 2)) (by first | rfl | decide +kernel) (fun _ _ _ _ _ G2 => (tg_tup G2.calm (tgs_cons (tg_name (i := 5) G2.nd) (tgs_cons (tg_name (i := 6) G2.nd) tgs_nil)))) (fun _ _ _ _ _ G2 => ets_nil) (fun _ _ _ _ _ G2 => (ev_name 5))))))) ea_nil))) (ea_cons (ev_tup (ea_cons (ev_tup ea_nil) (ea_cons (EvO.toF (eo_callTy c_tuple (by rfl) (Z.free 45) (by decide +kernel) (ep_cons (EvF.toB (EvO.toF (eo_lcG (own := [("text", 5), ("own", 6)]) G (it_any (ev_name 2)) (by first | rfl | decide +kernel) (fun _ _ _ _ _ G2 => (tg_tup G2.calm (tgs_cons (tg_name (i := 5) G2.nd) (tgs_cons (tg_name (i := 6) G2.nd) tgs_nil)))) (fun _ _ _ _ _ G2 => ets_nil) (fun _ _ _ _ _ G2 => (ev_name 6))))) ep_nil))) (ea_cons (ev_tup ea_nil) ea_nil)))) ea_nil))) ea_nil)))
  (el_cons (es_set (i := 3) G.nd (eo_lst (ea_cons (ev_tup (ea_cons (ev_str (by decide +kernel)) (ea_cons (ev_name 0) ea_nil))) (ea_cons (ev_tup (ea_cons (ev_str (by decide +kernel)) (ea_cons (EvO.toF (eo_sl sl_D (eb_name 0) ei_none (ei_some ev_int))) ea_nil))) (ea_cons (ev_tup (ea_cons (ev_str (by decide +kernel)) (ea_cons (EvO.toF (eo_sl sl_D (eb_name 0) ei_none (ei_some ev_int))) ea_nil))) (ea_cons (ev_tup (ea_cons (ev_str (by decide +kernel)) (ea_cons (EvO.toF (eo_sl sl_D (eb_name 0) ei_none (ei_some ev_int))) ea_nil))) ea_nil))))))
  (el_cons (es_expr (eo_meth m_append F.slot_list_append (eb_name 1) (ea_cons (ev_tup (ea_cons (EvO.toF (eo_rd F.plainAttrs_str F.slot_str_join m_join (EvF.toB (ev_str (by decide +kernel))) (ea_cons (EvO.toF (eo_bin op_addD (EvF.toB (EvO.toF (eo_lst (ea_cons (ev_str (by decide +kernel)) ea_nil)))) (EvF.toB (EvO.toF (eo_lcG (own := [("name", 4), ("sight", 7)]) G (it_any (ev_name 3)) (by first | rfl | decide +kernel) (fun _ _ _ _ _ G2 => (tg_tup G2.calm (tgs_cons (tg_name (i := 4) G2.nd) (tgs_cons (tg_name (i := 7) G2.nd) tgs_nil)))) (fun _ _ _ _ _ G2 => ets_nil) (fun _ _ _ _ _ G2 => (EvO.toF (eo_bin op_addD (EvF.toB (EvO.toF (eo_bin op_addD (EvF.toB (EvO.toF (eo_bin op_addD (EvF.toB (ev_str (by decide +kernel))) (eb_name 4)))) (EvF.toB (ev_str (by decide +kernel)))))) (EvF.toB (EvO.toF (eo_rd F.plainAttrs_str F.slot_str_join m_join (EvF.toB (ev_str (by decide +kernel))) (ea_cons (ev_name 7) ea_nil)))))))))))) ea_nil))) (ea_cons (ev_tup (ea_cons (ev_name 0) (ea_cons (EvO.toF (eo_callTy c_tuple (by rfl) (Z.free 45) (by decide +kernel) (ep_cons (eb_name 3) ep_nil))) (ea_cons (ev_tup ea_nil) ea_nil)))) ea_nil))) ea_nil)))
  (el_cons (es_ret (eo_move 1))
  el_nil))))))))))
def N__law_many : List Str := ["many", "names", "rows", "row", "clause"]
def ps__law_many : List Str := ["many"]
theorem sc__law_many : FnScope N__law_many ps__law_many (defScope s__law_many) := ⟨rfl, rfl, rfl, by decide +kernel, rfl, by decide +kernel, by decide +kernel⟩
theorem bind__law_many : BindOk "_law_many" s__law_many ps__law_many := fun _ _ _ _ _ _ us hl => match us, hl with | [_], _ => rfl
def e__law_many_1 : M D := (mF (dCall none 1 f__law_word (dConsP (mB (dName 4)) (M.pure []))))
def b__law_many_1 : M Fl := (lCons (lDrop (dMeth appendF (dSlot 2) (dCons (mF (dTupZip (dCons (dName 1) (dCons (dName 3) (M.pure []))))) (M.pure [])))) lNil)
def g__law_many : M Fl := (lCons (lPar [1, 2] (aoCons (mO (dTup (dCons (M.pure (PyData.str "a")) (dCons (M.pure (PyData.str "b")) (dCons (M.pure (PyData.str "c")) (dCons (M.pure (PyData.str "d")) (dCons (M.pure (PyData.str "e")) (dCons (M.pure (PyData.str "f")) (M.pure []))))))))) (aoCons (dLst (M.pure [])) aoNil))) (lCons (lFor (gSeq (mF (dSl slD (mB (mF (dCall none 1 f__law_bits (dConsP (mB (M.pure (PyData.int 6))) (M.pure []))))) (M.pure none) (dPart (dName 0))))) (tName 3) b__law_many_1) (lCons (lSet 2 (dCallB sortedF (dConsP (dSlot 2) (M.pure [])))) (lCons (lRet (mO (dTup (dCons (mF (dRd "str" joinF (mB (M.pure (PyData.str " ; "))) (dCons (mF (dBin addD (mB (mF (dLst (dCons (M.pure (PyData.str "pick a b c d e f")) (M.pure []))))) (mB (mF (dLc (gSeq (dName 2)) (tName 4) yes e__law_many_1 [4]))))) (M.pure [])))) (dCons (mF (dCallB tupleF (dConsP (dSlot 2) (M.pure [])))) (M.pure [])))))) lNil))))
def f__law_many : DFn := runFn none 4 g__law_many
theorem ok__law_many (Z : Wz P w K mg base) : Cal P w K mg base 2 "_law_many" s__law_many ps__law_many none f__law_many :=
  cal_of (m := 4) (Z.known 31) (Z.glo 31) sc__law_many rfl bind__law_many nofun fun cdv A outer s H E G =>
  (el_cons (by first | exact (es_par G (eao_cons G (EvF.toO (ev_tup (ea_cons (ev_str (by decide +kernel)) (ea_cons (ev_str (by decide +kernel)) (ea_cons (ev_str (by decide +kernel)) (ea_cons (ev_str (by decide +kernel)) (ea_cons (ev_str (by decide +kernel)) (ea_cons (ev_str (by decide +kernel)) ea_nil)))))))) (eao_cons G (eo_lst ea_nil) eao_nil)) (by decide)) | exact (es_asgT G (eao_cons G (EvF.toO (ev_tup (ea_cons (ev_str (by decide +kernel)) (ea_cons (ev_str (by decide +kernel)) (ea_cons (ev_str (by decide +kernel)) (ea_cons (ev_str (by decide +kernel)) (ea_cons (ev_str (by decide +kernel)) (ea_cons (ev_str (by decide +kernel)) ea_nil)))))))) (eao_cons G (eo_lst ea_nil) eao_nil)) (en_cons 1 G.nd (en_cons 2 G.nd en_nil)) (by decide)))
  (el_cons (es_for G (it_any (EvO.toF (eo_sl sl_D (EvF.toB (EvO.toF (eo_c (ok__law_bits Z) G (by decide) (ep_cons (EvF.toB ev_int) ep_nil) (by rfl)))) ei_none (ei_some (ev_name 0))))) (tg_name (i := 3) G.nd)
  (el_cons (es_expr (eo_meth m_append F.slot_list_append (eb_name 2) (ea_cons (EvO.toF (eo_tupzip G (ea_cons (ev_name 1) (ea_cons (ev_name 3) ea_nil)) (by rfl) (Z.free 46) (by rfl) (Z.free 45))) ea_nil)))
  el_nil))
  (el_cons (es_set (i := 2) G.nd (eo_callB (c_sorted G.u) (by rfl) (Z.free 41) (by decide +kernel) (ep_cons (eb_name 2) ep_nil)))
  (el_cons (es_ret (EvF.toO (ev_tup (ea_cons (EvO.toF (eo_rd F.plainAttrs_str F.slot_str_join m_join (EvF.toB (ev_str (by decide +kernel))) (ea_cons (EvO.toF (eo_bin op_addD (EvF.toB (EvO.toF (eo_lst (ea_cons (ev_str (by decide +kernel)) ea_nil)))) (EvF.toB (EvO.toF (eo_lcG (own := [("clause", 4)]) G (it_any (ev_name 2)) (by first | rfl | decide +kernel) (fun _ _ _ _ _ G2 => (tg_name (i := 4) G2.nd)) (fun _ _ _ _ _ G2 => ets_nil) (fun _ _ _ _ _ G2 => (EvO.toF (eo_c (ok__law_word Z) G2 (by decide) (ep_cons (EvF.toB (ev_name 4)) ep_nil) (by rfl))))))))) ea_nil))) (ea_cons (EvO.toF (eo_callTy c_tuple (by rfl) (Z.free 45) (by decide +kernel) (ep_cons (eb_name 2) ep_nil))) ea_nil)))))
  el_nil))))
def N_law : List Str := ["script", "seed", "odd", "text", "saying", "many", "clauses", "none", "wide", "clause", "thing", "k", "way"]
def ps_law : List Str := ["script"]
theorem sc_law : FnScope N_law ps_law (defScope s_law) := ⟨rfl, rfl, rfl, by decide +kernel, rfl, by decide +kernel, by decide +kernel⟩
theorem bind_law : BindOk "law" s_law ps_law := fun _ _ _ _ _ _ us hl => match us, hl with | [_], _ => rfl
def e_law_2 : M D := (mF (dCall none 2 f__law_read (dConsP (mB (dName 12)) (dConsP (mB (dName 10)) (M.pure [])))))
def b_law_5 : M Fl := (lCons (lIf (dTest (mF (dBin neD (mB (mF (dCallB reprF (dConsP (mB (mF (dCall none 2 f__law_read (dConsP (mB (mF (dBin addD (mB (M.pure (PyData.int 2))) (mB (mF (dCall (some 0) 2 f__law_any (dConsP (dSlot 1) (dConsP (mB (M.pure (PyData.int 2))) (M.pure []))))))))) (dConsP (mB (mF (dCall none 1 f__law_word (dConsP (mB (dName 9)) (M.pure []))))) (M.pure [])))))) (M.pure []))))) (mB (mF (dCallB reprF (dConsP (mB (mF (dLst (dCons (dName 9) (M.pure []))))) (M.pure [])))))))) (lCons (lRet (mO (M.pure (PyData.bool false)))) lNil) lNil) lNil)
def e_law_1 : M D := (dTup (dCons (mF (dBin addD (mB (mF (dSl slD (mB (M.pure (PyData.str "abc"))) (M.pure none) (dPart (mF (dBin addD (mB (M.pure (PyData.int 1))) (mB (mF (dBin modD (mB (mF (dCallB intF (dConsP (dSlot 11) (M.pure []))))) (mB (M.pure (PyData.int 3)))))))))))) (mB (mF (dBin ixD (mB (M.pure (PyData.str "abcdefghijklmnopqrstuvwxyz"))) (dSlot 11)))))) (dCons (mF (dBin eqD (mB (mF (dBin modD (mB (mF (dCallB intF (dConsP (dSlot 11) (M.pure []))))) (mB (M.pure (PyData.int 2)))))) (mB (M.pure (PyData.int 0))))) (M.pure []))))
def b_law_4 : M Fl := (lCons (lIf (dTest (mF (dBin neD (mB (mF (dCall none 2 f__law_read (dConsP (mB (mF (dBin addD (mB (M.pure (PyData.int 2))) (mB (mF (dCall (some 0) 2 f__law_any (dConsP (dSlot 1) (dConsP (mB (M.pure (PyData.int 2))) (M.pure []))))))))) (dConsP (mB (dName 3)) (M.pure [])))))) (mB (dTup (dCons (M.pure (PyData.bool true)) (dCons (dName 3) (M.pure [])))))))) (lCons (lRet (mO (M.pure (PyData.bool false)))) lNil) lNil) lNil)
def b_law_3 : M Fl := (lCons (lAsg (mF (dCall none 1 f__law_many (dConsP (mB (dName 5)) (M.pure [])))) (tTup 2 (DL.tCons (tName 3) (DL.tCons (tName 6) DL.tNil)))) (lCons (lIf (dTest (mF (dBin neD (mB (mF (dCall none 2 f__law_read (dConsP (mB (M.pure (PyData.int 0))) (dConsP (mB (dName 3)) (M.pure [])))))) (mB (dIf (dTest (mF (dBin ltD (dSlot 5) (mB (M.pure (PyData.int 41)))))) (mF (dLst (dCons (dTup (dCons (dTup (dCons (M.pure (PyData.str "a")) (dCons (M.pure (PyData.str "b")) (dCons (M.pure (PyData.str "c")) (dCons (M.pure (PyData.str "d")) (dCons (M.pure (PyData.str "e")) (dCons (M.pure (PyData.str "f")) (M.pure [])))))))) (dCons (dTup (M.pure [])) (dCons (dName 6) (M.pure []))))) (M.pure [])))) (dTup (dCons (M.pure (PyData.bool true)) (dCons (dName 3) (M.pure []))))))))) (lCons (lRet (mO (M.pure (PyData.bool false)))) lNil) lNil) lNil))
def b_law_2 : M Fl := (lCons (lIf (dTest (mF (dBin neD (mB (mF (dCallB reprF (dConsP (mB (mF (dCall none 2 f__law_read (dConsP (mB (mF (dCall (some 0) 2 f__law_any (dConsP (dSlot 1) (dConsP (mB (M.pure (PyData.int 2))) (M.pure [])))))) (dConsP (mB (dName 3)) (M.pure [])))))) (M.pure []))))) (mB (mF (dCallB reprF (dConsP (mB (mF (dLst (dCons (dName 4) (M.pure []))))) (M.pure [])))))))) (lCons (lRet (mO (M.pure (PyData.bool false)))) lNil) lNil) lNil)
def b_law_1 : M Fl := (lCons (lIf (dTest (mF (dBin neD (mB (mF (dCall none 2 f__law_read (dConsP (mB (mF (dCall (some 0) 2 f__law_any (dConsP (dSlot 1) (dConsP (mB (M.pure (PyData.int 2))) (M.pure [])))))) (dConsP (mB (dName 3)) (M.pure [])))))) (mB (dTup (dCons (M.pure (PyData.bool true)) (dCons (dName 3) (M.pure [])))))))) (lCons (lRet (mO (M.pure (PyData.bool false)))) lNil) lNil) lNil)
def g_law : M Fl := (lCons (lSet 1 (dCall none 1 f__law_seed (dConsP (mB (dName 0)) (M.pure [])))) (lCons (lSet 2 (dCall none 0 f__law_odd_sayings pNil)) (lCons (lFor (gSeq (dName 2)) (tName 3) b_law_1) (lCons (lFor (gSeq (mF (dCall none 0 f__law_fine_sayings pNil))) (tTup 2 (DL.tCons (tName 3) (DL.tCons (tName 4) DL.tNil))) b_law_2) (lCons (lFor (gSeq (dTup (dCons (M.pure (PyData.int 40)) (dCons (M.pure (PyData.int 41)) (dCons (M.pure (PyData.int 39)) (M.pure [])))))) (tName 5) b_law_3) (lCons (lSet 7 (dLst (dCons (M.pure (PyData.str "")) (dCons (M.pure (PyData.str " ")) (dCons (M.pure (PyData.str "-")) (dCons (M.pure (PyData.str "a ")) (dCons (M.pure (PyData.str " a")) (dCons (M.pure (PyData.str "a  b")) (dCons (M.pure (PyData.str "b a")) (dCons (M.pure (PyData.str "a a")) (dCons (M.pure (PyData.str "a -a")) (dCons (M.pure (PyData.str "A")) (dCons (M.pure (PyData.str "a1")) (dCons (M.pure (PyData.str ". .")) (dCons (M.pure (PyData.str ".a")) (dCons (M.pure (PyData.str "a .")) (dCons (M.pure (PyData.str "a.")) (dCons (M.pure (PyData.str "--a")) (dCons (M.pure (PyData.str "- a")) (dCons (M.pure (PyData.str "abcdefghi")) (dCons (M.pure (PyData.str "a;b")) (dCons (M.pure (PyData.str "a ; b")) (dCons (M.pure (PyData.str "a\n")) (dCons (M.pure (PyData.str "-a -a")) (dCons (M.pure (PyData.str "b -a")) (dCons (M.pure (PyData.str "pick -")) (M.pure []))))))))))))))))))))))))))) (lCons (lFor (gSeq (dName 7)) (tName 3) b_law_4) (lCons (lSet 8 (dLc (gRng1 (dCons (M.pure (PyData.int 26)) (M.pure []))) (tName 11) yes e_law_1 [11])) (lCons (lFor (gSeq (dTup (dCons (dTup (M.pure [])) (dCons (dTup (dCons (dTup (dCons (M.pure (PyData.str "a")) (dCons (M.pure (PyData.bool true)) (M.pure [])))) (M.pure []))) (dCons (dTup (dCons (dTup (dCons (M.pure (PyData.str "a")) (dCons (M.pure (PyData.bool false)) (M.pure [])))) (dCons (dTup (dCons (M.pure (PyData.str "b")) (dCons (M.pure (PyData.bool true)) (M.pure [])))) (M.pure [])))) (dCons (dTup (dCons (dTup (dCons (M.pure (PyData.str "abcdefgh")) (dCons (M.pure (PyData.bool false)) (M.pure [])))) (M.pure []))) (dCons (dTup (dCons (dTup (dCons (M.pure (PyData.str "own")) (dCons (M.pure (PyData.bool true)) (M.pure [])))) (dCons (dTup (dCons (M.pure (PyData.str "pick")) (dCons (M.pure (PyData.bool false)) (M.pure [])))) (M.pure [])))) (dCons (mF (dCallB tupleF (dConsP (mB (mF (dCallB sortedF (dConsP (dSlot 8) (M.pure []))))) (M.pure [])))) (M.pure []))))))))) (tName 9) b_law_5) (lCons (lSet 10 (dCall (some 0) 2 f__law_one_of (dConsP (dSlot 1) (dConsP (mB (mF (dLst (dCons (M.pure PyData.none) (dCons (M.pure (PyData.int 5)) (dCons (M.pure (PyData.bool true)) (dCons (mF (dLst (dCons (M.pure (PyData.str "pick -")) (M.pure [])))) (dCons (dTup (dCons (M.pure (PyData.str "a")) (M.pure []))) (dCons (dTup (M.pure [])) (dCons (mF (dLst (dCons (mF (dLst (dCons (M.pure (PyData.str "a")) (M.pure [])))) (M.pure [])))) (M.pure []))))))))))) (M.pure []))))) (lCons (lRet (dBin eqD (mB (mF (dLc (gRng1 (dCons (M.pure (PyData.int 4)) (M.pure []))) (tName 12) yes e_law_2 [12]))) (mB (mF (dRep (dLst (dCons (dTup (dCons (M.pure (PyData.bool true)) (dCons (dName 10) (M.pure [])))) (M.pure []))) 4))))) lNil)))))))))))
def f_law : DFn := runFn none 12 g_law
theorem ok_law (Z : Wz P w K mg base) : Cal P w K mg base 12 "law" s_law ps_law none f_law :=
  cal_of (m := 12) (Z.known 32) (Z.glo 32) sc_law rfl bind_law nofun fun cdv A outer s H E G =>
  (el_cons (es_set (i := 1) G.nd (eo_c (ok__law_seed Z) G (by decide) (ep_cons (EvF.toB (ev_name 0)) ep_nil) (by rfl)))
  (el_cons (es_set (i := 2) G.nd (eo_c0 (ok__law_odd_sayings Z) G (by decide) (by rfl)))
  (el_cons (es_for G (it_any (ev_name 2)) (tg_name (i := 3) G.nd)
  (el_cons (es_if (et_cmp (op_neD G.u) (EvF.toB (EvO.toF (eo_c (ok__law_read Z) G (by decide) (ep_cons (EvF.toB (EvO.toF (eo_c (ok__law_any Z) G (by decide) (ep_cons (eb_name 1) (ep_cons (EvF.toB ev_int) ep_nil)) (by rfl)))) (ep_cons (EvF.toB (ev_name 3)) ep_nil)) (by rfl)))) (EvF.toB (ev_tup (ea_cons ev_bl (ea_cons (ev_name 3) ea_nil)))) (by rfl))
  (el_cons (es_ret (EvF.toO ev_bl))
  el_nil)
  el_nil)
  el_nil))
  (el_cons (es_for G (it_any (EvO.toF (eo_c0 (ok__law_fine_sayings Z) G (by decide) (by rfl)))) (tg_tup G.calm (tgs_cons (tg_name (i := 3) G.nd) (tgs_cons (tg_name (i := 4) G.nd) tgs_nil)))
  (el_cons (es_if (et_cmp (op_neD G.u) (EvF.toB (EvO.toF (eo_callB (c_repr G.u G.gd) (by rfl) (Z.free 40) (by decide +kernel) (ep_cons (EvF.toB (EvO.toF (eo_c (ok__law_read Z) G (by decide) (ep_cons (EvF.toB (EvO.toF (eo_c (ok__law_any Z) G (by decide) (ep_cons (eb_name 1) (ep_cons (EvF.toB ev_int) ep_nil)) (by rfl)))) (ep_cons (EvF.toB (ev_name 3)) ep_nil)) (by rfl)))) ep_nil)))) (EvF.toB (EvO.toF (eo_callB (c_repr G.u G.gd) (by rfl) (Z.free 40) (by decide +kernel) (ep_cons (EvF.toB (EvO.toF (eo_lst (ea_cons (ev_name 4) ea_nil)))) ep_nil)))) (by rfl))
  (el_cons (es_ret (EvF.toO ev_bl))
  el_nil)
  el_nil)
  el_nil))
  (el_cons (es_for G (it_any (ev_tup (ea_cons ev_int (ea_cons ev_int (ea_cons ev_int ea_nil))))) (tg_name (i := 5) G.nd)
  (el_cons (es_asg (EvO.toF (eo_c (ok__law_many Z) G (by decide) (ep_cons (EvF.toB (ev_name 5)) ep_nil) (by rfl))) (tg_tup G.calm (tgs_cons (tg_name (i := 3) G.nd) (tgs_cons (tg_name (i := 6) G.nd) tgs_nil))))
  (el_cons (es_if (et_cmp (op_neD G.u) (EvF.toB (EvO.toF (eo_c (ok__law_read Z) G (by decide) (ep_cons (EvF.toB ev_int) (ep_cons (EvF.toB (ev_name 3)) ep_nil)) (by rfl)))) (EvF.toB (ev_if (et_cmp (op_ltD G.u) (eb_name 5) (EvF.toB ev_int) (by rfl)) (EvO.toF (eo_lst (ea_cons (ev_tup (ea_cons (ev_tup (ea_cons (ev_str (by decide +kernel)) (ea_cons (ev_str (by decide +kernel)) (ea_cons (ev_str (by decide +kernel)) (ea_cons (ev_str (by decide +kernel)) (ea_cons (ev_str (by decide +kernel)) (ea_cons (ev_str (by decide +kernel)) ea_nil))))))) (ea_cons (ev_tup ea_nil) (ea_cons (ev_name 6) ea_nil)))) ea_nil))) (ev_tup (ea_cons ev_bl (ea_cons (ev_name 3) ea_nil))))) (by rfl))
  (el_cons (es_ret (EvF.toO ev_bl))
  el_nil)
  el_nil)
  el_nil)))
  (el_cons (es_set (i := 7) G.nd (eo_lst (ea_cons (ev_str (by decide +kernel)) (ea_cons (ev_str (by decide +kernel)) (ea_cons (ev_str (by decide +kernel)) (ea_cons (ev_str (by decide +kernel)) (ea_cons (ev_str (by decide +kernel)) (ea_cons (ev_str (by decide +kernel)) (ea_cons (ev_str (by decide +kernel)) (ea_cons (ev_str (by decide +kernel)) (ea_cons (ev_str (by decide +kernel)) (ea_cons (ev_str (by decide +kernel)) (ea_cons (ev_str (by decide +kernel)) (ea_cons (ev_str (by decide +kernel)) (ea_cons (ev_str (by decide +kernel)) (ea_cons (ev_str (by decide +kernel)) (ea_cons (ev_str (by decide +kernel)) (ea_cons (ev_str (by decide +kernel)) (ea_cons (ev_str (by decide +kernel)) (ea_cons (ev_str (by decide +kernel)) (ea_cons (ev_str (by decide +kernel)) (ea_cons (ev_str (by decide +kernel)) (ea_cons (ev_str (by decide +kernel)) (ea_cons (ev_str (by decide +kernel)) (ea_cons (ev_str (by decide +kernel)) (ea_cons (ev_str (by decide +kernel)) ea_nil))))))))))))))))))))))))))
  (el_cons (es_for G (it_any (ev_name 7)) (tg_name (i := 3) G.nd)
  (el_cons (es_if (et_cmp (op_neD G.u) (EvF.toB (EvO.toF (eo_c (ok__law_read Z) G (by decide) (ep_cons (EvF.toB (EvO.toF (eo_bin op_addD (EvF.toB ev_int) (EvF.toB (EvO.toF (eo_c (ok__law_any Z) G (by decide) (ep_cons (eb_name 1) (ep_cons (EvF.toB ev_int) ep_nil)) (by rfl))))))) (ep_cons (EvF.toB (ev_name 3)) ep_nil)) (by rfl)))) (EvF.toB (ev_tup (ea_cons ev_bl (ea_cons (ev_name 3) ea_nil)))) (by rfl))
  (el_cons (es_ret (EvF.toO ev_bl))
  el_nil)
  el_nil)
  el_nil))
  (el_cons (by first | exact (es_setLcG (i := 8) (own := [("k", 11)]) G (it_rng1 (ea_cons ev_int ea_nil) (by rfl) (Z.free 39)) (by first | rfl | decide +kernel) (fun _ _ _ _ _ G2 => (tg_name (i := 11) G2.nd)) (fun _ _ _ _ _ G2 => ets_nil) (fun _ _ _ _ _ G2 => (ev_tup (ea_cons (EvO.toF (eo_bin op_addD (EvF.toB (EvO.toF (eo_sl sl_D (EvF.toB (ev_str (by decide +kernel))) ei_none (ei_some (EvO.toF (eo_bin op_addD (EvF.toB ev_int) (EvF.toB (EvO.toF (eo_bin op_modD (EvF.toB (EvO.toF (eo_callTy c_int (by rfl) (Z.free 35) (by decide +kernel) (ep_cons (eb_name 11) ep_nil)))) (EvF.toB ev_int)))))))))) (EvF.toB (EvO.toF (eo_ix ix_D (EvF.toB (ev_str (by decide +kernel))) (eb_name 11) (fun _ _ => by rfl)))))) (ea_cons (EvO.toF (eo_cmp (op_eqD G2.u) (EvF.toB (EvO.toF (eo_bin op_modD (EvF.toB (EvO.toF (eo_callTy c_int (by rfl) (Z.free 35) (by decide +kernel) (ep_cons (eb_name 11) ep_nil)))) (EvF.toB ev_int)))) (EvF.toB ev_int) (by rfl))) ea_nil))))) | exact (es_set (i := 8) G.nd (eo_lcG (own := [("k", 11)]) G (it_rng1 (ea_cons ev_int ea_nil) (by rfl) (Z.free 39)) (by first | rfl | decide +kernel) (fun _ _ _ _ _ G2 => (tg_name (i := 11) G2.nd)) (fun _ _ _ _ _ G2 => ets_nil) (fun _ _ _ _ _ G2 => (ev_tup (ea_cons (EvO.toF (eo_bin op_addD (EvF.toB (EvO.toF (eo_sl sl_D (EvF.toB (ev_str (by decide +kernel))) ei_none (ei_some (EvO.toF (eo_bin op_addD (EvF.toB ev_int) (EvF.toB (EvO.toF (eo_bin op_modD (EvF.toB (EvO.toF (eo_callTy c_int (by rfl) (Z.free 35) (by decide +kernel) (ep_cons (eb_name 11) ep_nil)))) (EvF.toB ev_int)))))))))) (EvF.toB (EvO.toF (eo_ix ix_D (EvF.toB (ev_str (by decide +kernel))) (eb_name 11) (fun _ _ => by rfl)))))) (ea_cons (EvO.toF (eo_cmp (op_eqD G2.u) (EvF.toB (EvO.toF (eo_bin op_modD (EvF.toB (EvO.toF (eo_callTy c_int (by rfl) (Z.free 35) (by decide +kernel) (ep_cons (eb_name 11) ep_nil)))) (EvF.toB ev_int)))) (EvF.toB ev_int) (by rfl))) ea_nil)))))))
  (el_cons (es_for G (it_any (ev_tup (ea_cons (ev_tup ea_nil) (ea_cons (ev_tup (ea_cons (ev_tup (ea_cons (ev_str (by decide +kernel)) (ea_cons ev_bl ea_nil))) ea_nil)) (ea_cons (ev_tup (ea_cons (ev_tup (ea_cons (ev_str (by decide +kernel)) (ea_cons ev_bl ea_nil))) (ea_cons (ev_tup (ea_cons (ev_str (by decide +kernel)) (ea_cons ev_bl ea_nil))) ea_nil))) (ea_cons (ev_tup (ea_cons (ev_tup (ea_cons (ev_str (by decide +kernel)) (ea_cons ev_bl ea_nil))) ea_nil)) (ea_cons (ev_tup (ea_cons (ev_tup (ea_cons (ev_str (by decide +kernel)) (ea_cons ev_bl ea_nil))) (ea_cons (ev_tup (ea_cons (ev_str (by decide +kernel)) (ea_cons ev_bl ea_nil))) ea_nil))) (ea_cons (EvO.toF (eo_callTy c_tuple (by rfl) (Z.free 45) (by decide +kernel) (ep_cons (EvF.toB (EvO.toF (eo_callB (c_sorted G.u) (by rfl) (Z.free 41) (by decide +kernel) (ep_cons (eb_name 8) ep_nil)))) ep_nil))) ea_nil)))))))) (tg_name (i := 9) G.nd)
  (el_cons (es_if (et_cmp (op_neD G.u) (EvF.toB (EvO.toF (eo_callB (c_repr G.u G.gd) (by rfl) (Z.free 40) (by decide +kernel) (ep_cons (EvF.toB (EvO.toF (eo_c (ok__law_read Z) G (by decide) (ep_cons (EvF.toB (EvO.toF (eo_bin op_addD (EvF.toB ev_int) (EvF.toB (EvO.toF (eo_c (ok__law_any Z) G (by decide) (ep_cons (eb_name 1) (ep_cons (EvF.toB ev_int) ep_nil)) (by rfl))))))) (ep_cons (EvF.toB (EvO.toF (eo_c (ok__law_word Z) G (by decide) (ep_cons (EvF.toB (ev_name 9)) ep_nil) (by rfl)))) ep_nil)) (by rfl)))) ep_nil)))) (EvF.toB (EvO.toF (eo_callB (c_repr G.u G.gd) (by rfl) (Z.free 40) (by decide +kernel) (ep_cons (EvF.toB (EvO.toF (eo_lst (ea_cons (ev_name 9) ea_nil)))) ep_nil)))) (by rfl))
  (el_cons (es_ret (EvF.toO ev_bl))
  el_nil)
  el_nil)
  el_nil))
  (el_cons (es_set (i := 10) G.nd (eo_c (ok__law_one_of Z) G (by decide) (ep_cons (eb_name 1) (ep_cons (EvF.toB (EvO.toF (eo_lst (ea_cons ev_non (ea_cons ev_int (ea_cons ev_bl (ea_cons (EvO.toF (eo_lst (ea_cons (ev_str (by decide +kernel)) ea_nil))) (ea_cons (ev_tup (ea_cons (ev_str (by decide +kernel)) ea_nil)) (ea_cons (ev_tup ea_nil) (ea_cons (EvO.toF (eo_lst (ea_cons (EvO.toF (eo_lst (ea_cons (ev_str (by decide +kernel)) ea_nil))) ea_nil))) ea_nil)))))))))) ep_nil)) (by rfl)))
  (el_cons (es_ret (eo_cmp (op_eqD G.u) (EvF.toB (EvO.toF (eo_lcG (own := [("way", 12)]) G (it_rng1 (ea_cons ev_int ea_nil) (by rfl) (Z.free 39)) (by first | rfl | decide +kernel) (fun _ _ _ _ _ G2 => (tg_name (i := 12) G2.nd)) (fun _ _ _ _ _ G2 => ets_nil) (fun _ _ _ _ _ G2 => (EvO.toF (eo_c (ok__law_read Z) G2 (by decide) (ep_cons (EvF.toB (ev_name 12)) (ep_cons (EvF.toB (ev_name 10)) ep_nil)) (by rfl))))))) (EvF.toB (EvO.toF (eo_rep (eo_lst (ea_cons (ev_tup (ea_cons ev_bl (ea_cons (ev_name 10) ea_nil))) ea_nil)) (by decide +kernel)))) (by rfl)))
  el_nil)))))))))))
end
abbrev R0 : PySem.W.OpenRow := PySem.W.OpenLaw.row PySem.Challenge.rw_onlytheseen_k37_texts_of_sayings_and_cla
def fileS : Str := (PySem.Challenge.rw_onlytheseen_k37_texts_of_sayings_and_cla).prog.main.file
abbrev hk : PySem.W.Hook := hookM 4 fa fn s_init fileS xs
def ob (s : PySem.W.SharedT) : AlM := obsM 4 fa fn fileS xs (HandSHeadRun.getT s)
theorem ob_eq (s : PySem.W.SharedT) : ob s = hk.obs s.abs := obsM_eq (HandSHeadRun.getT_eq s)
theorem run (w : World) : HandSHeadRun.RunEq R0 (PySem.W.view R0.prog [45]) hk ob 3000 loose w := by
  intro os
  kernel_rfl
end KH
end
section
set_option maxRecDepth 100000
set_option maxHeartbeats 4000000
namespace KH
open PySem PySem.Spec L2 DL
open PyProof.Rows hiding St
local macro_rules | `(tactic| simp_arith [$ls,*]) => `(tactic| simp (disch := first | (refine id ?_; with_unfolding_all rfl) | assumption | omega | (simp only [DL.l_lenS, DL.l_lenN, DL.l_lenM, DL.l_lenA]; omega)) only [$ls,*, DL.kGet_fz, DL.kGet_ow, DL.kGet_io, DL.get_v, DL.get_s, DL.r_name, DL.kName_fz, DL.kName_ow, DL.r_slot, DL.kSlot_fz, DL.kSlot_ow, DL.kSlot_io, DL.r_move, DL.kMove_fz, DL.kMove_ow, DL.r_pure, DL.r_F, DL.kF_fz, DL.kF_ow, DL.kF_ex, DL.r_O, DL.kO_ok, DL.kO_ex, DL.r_B, DL.kB_ok, DL.kB_ex, DL.kFin_some, DL.kB3_some, DL.kB2_ok, DL.kB2_ex, DL.kB1_ok, DL.kB1_ex, DL.r_bin, DL.r_test, DL.kTest_ok, DL.kTest_ex, DL.r_not, DL.kNot_ok, DL.kNot_ex, DL.r_and, DL.kAnd_t, DL.kAnd_f, DL.kAnd_ex, DL.r_or, DL.kOr_t, DL.kOr_f, DL.kOr_ex, DL.r_andT, DL.kAndT_t, DL.kAndT_f, DL.kAndT_ex, DL.r_orT, DL.kOrT_t, DL.kOrT_f, DL.kOrT_ex, DL.r_notT, DL.kNotT_ok, DL.kNotT_ex, DL.r_if, DL.r_lif, DL.kIf_t, DL.kIf_f, DL.kIf_ex, DL.kC2_ok, DL.kC2_ex, DL.kC1_ok, DL.kC1_ex, DL.r_cons, DL.r_consP, DL.r_aoCons, DL.r_aoNil, DL.r_aNil, DL.r_pNil, DL.r_tup, DL.kTup_ok, DL.kTup_ex, DL.r_lst, DL.kLst_ok, DL.kLst_ex, DL.r_rep, DL.kRep_ok, DL.kGA_some, DL.getAll_nil, DL.getAll_cons, DL.kCB2_some, DL.kCB_ok, DL.kCB_ex, DL.r_callB, DL.kMp_some, DL.ca_nil, DL.ca_none, DL.ca_some, DL.kCA_ow, DL.kCA_io, DL.ca_io, DL.ios_none, DL.ios_some, DL.kIos_s, DL.put_none, DL.put_some, DL.kPut_ow, DL.kPut_io, DL.kCall3_ok, DL.kCall3_ex, DL.kCall2_some, DL.kCall_ok, DL.kCall_ex, DL.r_call, DL.kCallK2_ok, DL.kCallK2_ex, DL.kCallK1_len, DL.kCallK_ok, DL.kCallK_ex, DL.r_callK, DL.perm_nil, DL.perm_cons, DL.kPc_some, DL.init_nil, DL.init_none, DL.init_io, DL.init_some, DL.out_none, DL.out_some, DL.kOE_io, DL.kOut_some, DL.kOutX_some, DL.kRun_nx, DL.kRun_rt, DL.kRun_ex, DL.r_run, DL.r_lnil, DL.r_seq, DL.kSeq_nx, DL.kSeq_rt, DL.kSeq_bk, DL.kSeq_ct, DL.kSeq_ex, DL.kSeq_bad, DL.r_drop, DL.kDrop_ok, DL.kDrop_ex, DL.r_ret, DL.kRet_ok, DL.kRet_ex, DL.r_set, DL.kSet2_some, DL.kSet_ok, DL.kSet_ex, DL.kAsg2_ok, DL.kAsg_ok, DL.kAsg_ex, DL.r_asg, DL.kTn_some, DL.t_name, DL.t_nil, DL.kTc_ok, DL.t_cons, DL.t_tup, DL.kSub4_some, DL.kSub3_some, DL.kSub2_ok, DL.kSub_ok, DL.t_sub, DL.ownL_ow, DL.ownL_io, DL.r_par, DL.kPar_ok, DL.kPar_ex, DL.kAug2_some, DL.kAug1_ok, DL.kAug_fz, DL.r_aug, DL.kM5_some, DL.kM4_some, DL.kM3_ok, DL.kM3_ex, DL.kM2_some, DL.kM1_ok, DL.r_meth, DL.kR3_some, DL.kR2_ok, DL.kR2_ex, DL.kR1b_some, DL.kR1_ok, DL.kR1_ex, DL.r_rd, DL.kIsi2_some, DL.kIsi_ok, DL.r_isi, DL.r_part, DL.kPart_ok, DL.kSl4_some, DL.kSl3_ok, DL.kSl2_ok, DL.kSl1_ok, DL.kSl1_ex, DL.r_sl, DL.r_neg, DL.kNeg_ok, DL.kCh4_some, DL.kCh4b_some, DL.kCh3_ok, DL.kCh2c_f, DL.kCh2c_t, DL.kCh2b_some, DL.kCh2_ok, DL.kCh1_ok, DL.r_chain, DL.r_raise, DL.kRaise_ok, DL.kTry3_nx, DL.kTry3_rt, DL.kTry_ok, DL.kTry_in, DL.r_try, DL.noXc_nil, DL.noXc_fz, DL.noXc_ow, DL.noXc_io, DL.noXc_no, DL.r_xval, DL.kXval_xc, DL.r_xis, DL.kXis_xc, DL.kSq2_some, DL.kSq_ok, DL.kSq_ex, DL.r_seqI, DL.seqD_list, DL.seqD_tup, DL.seqD_str, DL.r_rg1, DL.kRg1_ok, DL.r_rg2, DL.kRg2_ok, DL.kZip2_some, DL.r_zip, DL.kZip_ok, DL.kEnum2_some, DL.r_enum, DL.kEnum_ok, DL.kTz2_some, DL.kTz_ok, DL.r_tz, DL.r_for, DL.kFor_ok, DL.kFor_ex, DL.r_turn, DL.kTurn_ok, DL.for_nil, DL.kLoop_nx, DL.kLoop_ct, DL.kLoop_bk, DL.kLoop_rt, DL.kLoop_ex, DL.kLc2_ok, DL.kLc_ok, DL.kLc_ex, DL.r_lc, DL.fix_nil, DL.fix_cons, DL.kFx_none, DL.kFx_fz, DL.kFx_no, DL.kFx_ow, DL.kFx_io, DL.kItem3_ok, DL.kItem2_t, DL.kItem2_f, DL.kItem_ok, DL.r_item, DL.r_yes, DL.lc_nil, DL.kLcL_some, DL.kLcL_none, DL.l_get0, DL.l_getS, DL.l_getN, DL.l_set0, DL.l_setS, DL.l_rep0, DL.l_repS, DL.l_app, DL.l_app0, DL.l_appN, DL.l_lenN, DL.l_lenS, DL.l_lenM, DL.l_lenA, DL.l_lenR, DL.l_cat0, DL.l_cat1, DL.setEn_c, DL.setEn_n, DL.b_dT, DL.b_dF, DL.b_nt, DL.b_nf, DL.b_nn, DL.b_at, DL.b_af, DL.b_ta, DL.b_fa, DL.b_ot, DL.b_of, DL.b_to, DL.b_fo, DL.b_tt, DL.b_ff, DL.b_tf, DL.b_ft, DL.b_nT, DL.b_nF, DL.b_iT, DL.b_iF, DL.kIf_not, DL.kAndT_not, DL.add_i, DL.sub_i, DL.mul_r, DL.mul_l, DL.mul_w, DL.fdiv_i, DL.mod_i, DL.pow_i, DL.shl_i, DL.shr_i, DL.and_i, DL.lt_i, DL.gt_i, DL.le_i, DL.ge_i, DL.eq_i, DL.eq_s, DL.eq_b, DL.ne_i, DL.ne_s, DL.ne_b, DL.is_non, DL.isnt_non, DL.iN_n, DL.iN_b, DL.iN_i, DL.iN_s, DL.iN_t, DL.iN_l, DL.len_l, DL.len_t, DL.len_s, DL.int_i, DL.int_b, DL.abs_i, DL.tup_l, DL.tup_t, DL.lst_l, DL.lst_t, DL.max_i, DL.min_i, DL.all_b, DL.any_b, DL.isi_bb, DL.isi_bi, DL.isi_bs, DL.isi_bn, DL.isi_bt, DL.isi_bl, DL.isi_ib, DL.isi_ii, DL.isi_is, DL.isi_in, DL.isi_it, DL.isi_il, DL.isi_sb, DL.isi_si, DL.isi_ss, DL.isi_sn, DL.isi_st, DL.isi_sl, DL.isi_tb, DL.isi_ti, DL.isi_ts, DL.isi_tn, DL.isi_tt, DL.isi_tl, DL.isi_lb, DL.isi_li, DL.isi_ls, DL.isi_ln, DL.isi_lt, DL.isi_ll, DL.tyD_s, DL.tyD_t, DL.tyD_l, DL.tyD_i, DL.kIx_s, DL.ix_l, DL.ix_t, DL.at_0, DL.at_1, DL.at_2, DL.at_3, DL.at_4, DL.ixN_lt, DL.app_F, DL.ext_F, DL.add_l, DL.add_t, DL.sl_l, DL.sl_t])
local macro_rules | `(tactic| simp_arith [$ls,*] $l:location) => `(tactic| simp (disch := first | (refine id ?_; with_unfolding_all rfl) | assumption | omega | (simp only [DL.l_lenS, DL.l_lenN, DL.l_lenM, DL.l_lenA]; omega)) only [$ls,*, DL.kGet_fz, DL.kGet_ow, DL.kGet_io, DL.get_v, DL.get_s, DL.r_name, DL.kName_fz, DL.kName_ow, DL.r_slot, DL.kSlot_fz, DL.kSlot_ow, DL.kSlot_io, DL.r_move, DL.kMove_fz, DL.kMove_ow, DL.r_pure, DL.r_F, DL.kF_fz, DL.kF_ow, DL.kF_ex, DL.r_O, DL.kO_ok, DL.kO_ex, DL.r_B, DL.kB_ok, DL.kB_ex, DL.kFin_some, DL.kB3_some, DL.kB2_ok, DL.kB2_ex, DL.kB1_ok, DL.kB1_ex, DL.r_bin, DL.r_test, DL.kTest_ok, DL.kTest_ex, DL.r_not, DL.kNot_ok, DL.kNot_ex, DL.r_and, DL.kAnd_t, DL.kAnd_f, DL.kAnd_ex, DL.r_or, DL.kOr_t, DL.kOr_f, DL.kOr_ex, DL.r_andT, DL.kAndT_t, DL.kAndT_f, DL.kAndT_ex, DL.r_orT, DL.kOrT_t, DL.kOrT_f, DL.kOrT_ex, DL.r_notT, DL.kNotT_ok, DL.kNotT_ex, DL.r_if, DL.r_lif, DL.kIf_t, DL.kIf_f, DL.kIf_ex, DL.kC2_ok, DL.kC2_ex, DL.kC1_ok, DL.kC1_ex, DL.r_cons, DL.r_consP, DL.r_aoCons, DL.r_aoNil, DL.r_aNil, DL.r_pNil, DL.r_tup, DL.kTup_ok, DL.kTup_ex, DL.r_lst, DL.kLst_ok, DL.kLst_ex, DL.r_rep, DL.kRep_ok, DL.kGA_some, DL.getAll_nil, DL.getAll_cons, DL.kCB2_some, DL.kCB_ok, DL.kCB_ex, DL.r_callB, DL.kMp_some, DL.ca_nil, DL.ca_none, DL.ca_some, DL.kCA_ow, DL.kCA_io, DL.ca_io, DL.ios_none, DL.ios_some, DL.kIos_s, DL.put_none, DL.put_some, DL.kPut_ow, DL.kPut_io, DL.kCall3_ok, DL.kCall3_ex, DL.kCall2_some, DL.kCall_ok, DL.kCall_ex, DL.r_call, DL.kCallK2_ok, DL.kCallK2_ex, DL.kCallK1_len, DL.kCallK_ok, DL.kCallK_ex, DL.r_callK, DL.perm_nil, DL.perm_cons, DL.kPc_some, DL.init_nil, DL.init_none, DL.init_io, DL.init_some, DL.out_none, DL.out_some, DL.kOE_io, DL.kOut_some, DL.kOutX_some, DL.kRun_nx, DL.kRun_rt, DL.kRun_ex, DL.r_run, DL.r_lnil, DL.r_seq, DL.kSeq_nx, DL.kSeq_rt, DL.kSeq_bk, DL.kSeq_ct, DL.kSeq_ex, DL.kSeq_bad, DL.r_drop, DL.kDrop_ok, DL.kDrop_ex, DL.r_ret, DL.kRet_ok, DL.kRet_ex, DL.r_set, DL.kSet2_some, DL.kSet_ok, DL.kSet_ex, DL.kAsg2_ok, DL.kAsg_ok, DL.kAsg_ex, DL.r_asg, DL.kTn_some, DL.t_name, DL.t_nil, DL.kTc_ok, DL.t_cons, DL.t_tup, DL.kSub4_some, DL.kSub3_some, DL.kSub2_ok, DL.kSub_ok, DL.t_sub, DL.ownL_ow, DL.ownL_io, DL.r_par, DL.kPar_ok, DL.kPar_ex, DL.kAug2_some, DL.kAug1_ok, DL.kAug_fz, DL.r_aug, DL.kM5_some, DL.kM4_some, DL.kM3_ok, DL.kM3_ex, DL.kM2_some, DL.kM1_ok, DL.r_meth, DL.kR3_some, DL.kR2_ok, DL.kR2_ex, DL.kR1b_some, DL.kR1_ok, DL.kR1_ex, DL.r_rd, DL.kIsi2_some, DL.kIsi_ok, DL.r_isi, DL.r_part, DL.kPart_ok, DL.kSl4_some, DL.kSl3_ok, DL.kSl2_ok, DL.kSl1_ok, DL.kSl1_ex, DL.r_sl, DL.r_neg, DL.kNeg_ok, DL.kCh4_some, DL.kCh4b_some, DL.kCh3_ok, DL.kCh2c_f, DL.kCh2c_t, DL.kCh2b_some, DL.kCh2_ok, DL.kCh1_ok, DL.r_chain, DL.r_raise, DL.kRaise_ok, DL.kTry3_nx, DL.kTry3_rt, DL.kTry_ok, DL.kTry_in, DL.r_try, DL.noXc_nil, DL.noXc_fz, DL.noXc_ow, DL.noXc_io, DL.noXc_no, DL.r_xval, DL.kXval_xc, DL.r_xis, DL.kXis_xc, DL.kSq2_some, DL.kSq_ok, DL.kSq_ex, DL.r_seqI, DL.seqD_list, DL.seqD_tup, DL.seqD_str, DL.r_rg1, DL.kRg1_ok, DL.r_rg2, DL.kRg2_ok, DL.kZip2_some, DL.r_zip, DL.kZip_ok, DL.kEnum2_some, DL.r_enum, DL.kEnum_ok, DL.kTz2_some, DL.kTz_ok, DL.r_tz, DL.r_for, DL.kFor_ok, DL.kFor_ex, DL.r_turn, DL.kTurn_ok, DL.for_nil, DL.kLoop_nx, DL.kLoop_ct, DL.kLoop_bk, DL.kLoop_rt, DL.kLoop_ex, DL.kLc2_ok, DL.kLc_ok, DL.kLc_ex, DL.r_lc, DL.fix_nil, DL.fix_cons, DL.kFx_none, DL.kFx_fz, DL.kFx_no, DL.kFx_ow, DL.kFx_io, DL.kItem3_ok, DL.kItem2_t, DL.kItem2_f, DL.kItem_ok, DL.r_item, DL.r_yes, DL.lc_nil, DL.kLcL_some, DL.kLcL_none, DL.l_get0, DL.l_getS, DL.l_getN, DL.l_set0, DL.l_setS, DL.l_rep0, DL.l_repS, DL.l_app, DL.l_app0, DL.l_appN, DL.l_lenN, DL.l_lenS, DL.l_lenM, DL.l_lenA, DL.l_lenR, DL.l_cat0, DL.l_cat1, DL.setEn_c, DL.setEn_n, DL.b_dT, DL.b_dF, DL.b_nt, DL.b_nf, DL.b_nn, DL.b_at, DL.b_af, DL.b_ta, DL.b_fa, DL.b_ot, DL.b_of, DL.b_to, DL.b_fo, DL.b_tt, DL.b_ff, DL.b_tf, DL.b_ft, DL.b_nT, DL.b_nF, DL.b_iT, DL.b_iF, DL.kIf_not, DL.kAndT_not, DL.add_i, DL.sub_i, DL.mul_r, DL.mul_l, DL.mul_w, DL.fdiv_i, DL.mod_i, DL.pow_i, DL.shl_i, DL.shr_i, DL.and_i, DL.lt_i, DL.gt_i, DL.le_i, DL.ge_i, DL.eq_i, DL.eq_s, DL.eq_b, DL.ne_i, DL.ne_s, DL.ne_b, DL.is_non, DL.isnt_non, DL.iN_n, DL.iN_b, DL.iN_i, DL.iN_s, DL.iN_t, DL.iN_l, DL.len_l, DL.len_t, DL.len_s, DL.int_i, DL.int_b, DL.abs_i, DL.tup_l, DL.tup_t, DL.lst_l, DL.lst_t, DL.max_i, DL.min_i, DL.all_b, DL.any_b, DL.isi_bb, DL.isi_bi, DL.isi_bs, DL.isi_bn, DL.isi_bt, DL.isi_bl, DL.isi_ib, DL.isi_ii, DL.isi_is, DL.isi_in, DL.isi_it, DL.isi_il, DL.isi_sb, DL.isi_si, DL.isi_ss, DL.isi_sn, DL.isi_st, DL.isi_sl, DL.isi_tb, DL.isi_ti, DL.isi_ts, DL.isi_tn, DL.isi_tt, DL.isi_tl, DL.isi_lb, DL.isi_li, DL.isi_ls, DL.isi_ln, DL.isi_lt, DL.isi_ll, DL.tyD_s, DL.tyD_t, DL.tyD_l, DL.tyD_i, DL.kIx_s, DL.ix_l, DL.ix_t, DL.at_0, DL.at_1, DL.at_2, DL.at_3, DL.at_4, DL.ixN_lt, DL.app_F, DL.ext_F, DL.add_l, DL.add_t, DL.sl_l, DL.sl_t] $l)
def Sd (n : Nat) (d : D) : Prop := ∃ (ns : List Int) (a b : Int), d = .list [.tuple (ns.map PyData.int), .int a, .int b] ∧ 0 ≤ a ∧ a ≤ n ∧ 0 ≤ b
theorem any_ok {n : Nat} {d : D} {m : Int} (h : Sd n d) (hn : n ≤ 900000) (hm : 2 ≤ m) (hm2 : m ≤ 1000000) : ∃ r d', f__law_any [d, .int m] = .ok (.fz (.int r)) d' ∧ 0 ≤ r ∧ r < m ∧ Sd (n + 1) d' := by
  obtain ⟨ns, a, b, rfl, h1, h2, h3⟩ := h
  have z1 : ¬ m < 2 := by omega
  by_cases hb : 0 < b
  · refine ⟨b % m, .list [.tuple (ns.map PyData.int), .int a, .int (b / m)], ?_, Int.emod_nonneg _ (by omega), Int.emod_lt_of_pos _ (by omega), ns, a, b / m, rfl, h1, by omega, Int.ediv_nonneg (by omega) (by omega)⟩
    simp_arith [seval, f__law_any, r_run, g__law_any, z1, hb]
  · obtain rfl : b = 0 := by omega
    have go : ∀ c : Int, (ns.length = 0 ∧ c = 0) ∨ (0 < ns.length ∧ atI (ns.map PyData.int) (a % (ns.length : Int)) = some (.int c)) → ∃ r d', f__law_any [.list [.tuple (ns.map PyData.int), .int a, .int 0], .int m] = .ok (.fz (.int r)) d' ∧ 0 ≤ r ∧ r < m ∧ Sd (n + 1) d' := fun c hc => by
      have ea : a + 1 - 1 = a := by omega
      by_cases big : a + 1 ≤ ns.length ∧ 1000000000000000000 ≤ c
      · obtain ⟨g1, g2⟩ := big
        have g0 : 0 < ns.length := by omega
        have gc := (hc.resolve_left (by omega)).2
        refine ⟨c % m, .list [.tuple (ns.map PyData.int), .int (a + 1), .int (c / m)], ?_, Int.emod_nonneg _ (by omega), Int.emod_lt_of_pos _ (by omega), ns, a + 1, c / m, rfl, by omega, by omega, Int.ediv_nonneg (by omega) (by omega)⟩
        have g3 : (0 : Int) < ns.length := by omega
        simp_arith [seval, f__law_any, r_run, g__law_any, z1, ea, g3, gc, g1, g2]
      · have fin : (∃ x : Int, f__law_any [.list [.tuple (ns.map PyData.int), .int a, .int 0], .int m] = .ok (.fz (.int (x % m))) (.list [.tuple (ns.map PyData.int), .int (a + 1), .int 0])) → ∃ r d', f__law_any [.list [.tuple (ns.map PyData.int), .int a, .int 0], .int m] = .ok (.fz (.int r)) d' ∧ 0 ≤ r ∧ r < m ∧ Sd (n + 1) d' := fun ⟨x, e⟩ =>
          ⟨x % m, _, e, Int.emod_nonneg _ (by omega), Int.emod_lt_of_pos _ (by omega), ns, a + 1, 0, rfl, by omega, by omega, Int.le_refl _⟩
        rcases hc with ⟨l0, rfl⟩ | ⟨l0, gc⟩
        · have g1 : ¬ (0 : Int) < ns.length := by omega
          have g2 : ¬ a + 1 ≤ (ns.length : Int) := by omega
          apply fin; apply Exists.intro
          simp_arith [seval, f__law_any, r_run, g__law_any, z1, g1, g2]
          rfl
        · have g1 : (0 : Int) < ns.length := by omega
          by_cases g2 : a + 1 ≤ (ns.length : Int)
          · have g3 : ¬ 1000000000000000000 ≤ c := fun z => big ⟨g2, z⟩
            apply fin; apply Exists.intro
            simp_arith [seval, f__law_any, r_run, g__law_any, z1, ea, g1, gc, g2, g3]
            rfl
          · apply fin; apply Exists.intro
            simp_arith [seval, f__law_any, r_run, g__law_any, z1, ea, g1, gc, g2]
            rfl
    by_cases hl : ns.length = 0
    · exact go 0 (.inl ⟨hl, rfl⟩)
    · have k1 := Int.emod_nonneg a (b := (ns.length : Int)) (by omega)
      have k2 := Int.emod_lt_of_pos a (b := (ns.length : Int)) (by omega)
      exact go _ (.inr ⟨by omega, atI_get k1 (by rw [List.getElem?_map, List.getElem?_eq_getElem (by omega)]; rfl)⟩)
end KH
end
section
set_option maxRecDepth 100000
set_option maxHeartbeats 4000000
namespace KH
open PySem PySem.Spec L2 DL
open PyProof.Rows hiding St
local macro_rules | `(tactic| simp_arith [$ls,*]) => `(tactic| simp (disch := first | (refine id ?_; with_unfolding_all rfl) | assumption | omega | (simp only [DL.l_lenS, DL.l_lenN, DL.l_lenM, DL.l_lenA]; omega)) only [$ls,*, DL.kGet_fz, DL.kGet_ow, DL.kGet_io, DL.get_v, DL.get_s, DL.r_name, DL.kName_fz, DL.kName_ow, DL.r_slot, DL.kSlot_fz, DL.kSlot_ow, DL.kSlot_io, DL.r_move, DL.kMove_fz, DL.kMove_ow, DL.r_pure, DL.r_F, DL.kF_fz, DL.kF_ow, DL.kF_ex, DL.r_O, DL.kO_ok, DL.kO_ex, DL.r_B, DL.kB_ok, DL.kB_ex, DL.kFin_some, DL.kB3_some, DL.kB2_ok, DL.kB2_ex, DL.kB1_ok, DL.kB1_ex, DL.r_bin, DL.r_test, DL.kTest_ok, DL.kTest_ex, DL.r_not, DL.kNot_ok, DL.kNot_ex, DL.r_and, DL.kAnd_t, DL.kAnd_f, DL.kAnd_ex, DL.r_or, DL.kOr_t, DL.kOr_f, DL.kOr_ex, DL.r_andT, DL.kAndT_t, DL.kAndT_f, DL.kAndT_ex, DL.r_orT, DL.kOrT_t, DL.kOrT_f, DL.kOrT_ex, DL.r_notT, DL.kNotT_ok, DL.kNotT_ex, DL.r_if, DL.r_lif, DL.kIf_t, DL.kIf_f, DL.kIf_ex, DL.kC2_ok, DL.kC2_ex, DL.kC1_ok, DL.kC1_ex, DL.r_cons, DL.r_consP, DL.r_aoCons, DL.r_aoNil, DL.r_aNil, DL.r_pNil, DL.r_tup, DL.kTup_ok, DL.kTup_ex, DL.r_lst, DL.kLst_ok, DL.kLst_ex, DL.r_rep, DL.kRep_ok, DL.kGA_some, DL.getAll_nil, DL.getAll_cons, DL.kCB2_some, DL.kCB_ok, DL.kCB_ex, DL.r_callB, DL.kMp_some, DL.ca_nil, DL.ca_none, DL.ca_some, DL.kCA_ow, DL.kCA_io, DL.ca_io, DL.ios_none, DL.ios_some, DL.kIos_s, DL.put_none, DL.put_some, DL.kPut_ow, DL.kPut_io, DL.kCall3_ok, DL.kCall3_ex, DL.kCall2_some, DL.kCall_ok, DL.kCall_ex, DL.r_call, DL.kCallK2_ok, DL.kCallK2_ex, DL.kCallK1_len, DL.kCallK_ok, DL.kCallK_ex, DL.r_callK, DL.perm_nil, DL.perm_cons, DL.kPc_some, DL.init_nil, DL.init_none, DL.init_io, DL.init_some, DL.out_none, DL.out_some, DL.kOE_io, DL.kOut_some, DL.kOutX_some, DL.kRun_nx, DL.kRun_rt, DL.kRun_ex, DL.r_run, DL.r_lnil, DL.r_seq, DL.kSeq_nx, DL.kSeq_rt, DL.kSeq_bk, DL.kSeq_ct, DL.kSeq_ex, DL.kSeq_bad, DL.r_drop, DL.kDrop_ok, DL.kDrop_ex, DL.r_ret, DL.kRet_ok, DL.kRet_ex, DL.r_set, DL.kSet2_some, DL.kSet_ok, DL.kSet_ex, DL.kAsg2_ok, DL.kAsg_ok, DL.kAsg_ex, DL.r_asg, DL.kTn_some, DL.t_name, DL.t_nil, DL.kTc_ok, DL.t_cons, DL.t_tup, DL.kSub4_some, DL.kSub3_some, DL.kSub2_ok, DL.kSub_ok, DL.t_sub, DL.ownL_ow, DL.ownL_io, DL.r_par, DL.kPar_ok, DL.kPar_ex, DL.kAug2_some, DL.kAug1_ok, DL.kAug_fz, DL.r_aug, DL.kM5_some, DL.kM4_some, DL.kM3_ok, DL.kM3_ex, DL.kM2_some, DL.kM1_ok, DL.r_meth, DL.kR3_some, DL.kR2_ok, DL.kR2_ex, DL.kR1b_some, DL.kR1_ok, DL.kR1_ex, DL.r_rd, DL.kIsi2_some, DL.kIsi_ok, DL.r_isi, DL.r_part, DL.kPart_ok, DL.kSl4_some, DL.kSl3_ok, DL.kSl2_ok, DL.kSl1_ok, DL.kSl1_ex, DL.r_sl, DL.r_neg, DL.kNeg_ok, DL.kCh4_some, DL.kCh4b_some, DL.kCh3_ok, DL.kCh2c_f, DL.kCh2c_t, DL.kCh2b_some, DL.kCh2_ok, DL.kCh1_ok, DL.r_chain, DL.r_raise, DL.kRaise_ok, DL.kTry3_nx, DL.kTry3_rt, DL.kTry_ok, DL.kTry_in, DL.r_try, DL.noXc_nil, DL.noXc_fz, DL.noXc_ow, DL.noXc_io, DL.noXc_no, DL.r_xval, DL.kXval_xc, DL.r_xis, DL.kXis_xc, DL.kSq2_some, DL.kSq_ok, DL.kSq_ex, DL.r_seqI, DL.seqD_list, DL.seqD_tup, DL.seqD_str, DL.r_rg1, DL.kRg1_ok, DL.r_rg2, DL.kRg2_ok, DL.kZip2_some, DL.r_zip, DL.kZip_ok, DL.kEnum2_some, DL.r_enum, DL.kEnum_ok, DL.kTz2_some, DL.kTz_ok, DL.r_tz, DL.r_for, DL.kFor_ok, DL.kFor_ex, DL.r_turn, DL.kTurn_ok, DL.for_nil, DL.kLoop_nx, DL.kLoop_ct, DL.kLoop_bk, DL.kLoop_rt, DL.kLoop_ex, DL.kLc2_ok, DL.kLc_ok, DL.kLc_ex, DL.r_lc, DL.fix_nil, DL.fix_cons, DL.kFx_none, DL.kFx_fz, DL.kFx_no, DL.kFx_ow, DL.kFx_io, DL.kItem3_ok, DL.kItem2_t, DL.kItem2_f, DL.kItem_ok, DL.r_item, DL.r_yes, DL.lc_nil, DL.kLcL_some, DL.kLcL_none, DL.l_get0, DL.l_getS, DL.l_getN, DL.l_set0, DL.l_setS, DL.l_rep0, DL.l_repS, DL.l_app, DL.l_app0, DL.l_appN, DL.l_lenN, DL.l_lenS, DL.l_lenM, DL.l_lenA, DL.l_lenR, DL.l_cat0, DL.l_cat1, DL.setEn_c, DL.setEn_n, DL.b_dT, DL.b_dF, DL.b_nt, DL.b_nf, DL.b_nn, DL.b_at, DL.b_af, DL.b_ta, DL.b_fa, DL.b_ot, DL.b_of, DL.b_to, DL.b_fo, DL.b_tt, DL.b_ff, DL.b_tf, DL.b_ft, DL.b_nT, DL.b_nF, DL.b_iT, DL.b_iF, DL.kIf_not, DL.kAndT_not, DL.add_i, DL.sub_i, DL.mul_r, DL.mul_l, DL.mul_w, DL.fdiv_i, DL.mod_i, DL.pow_i, DL.shl_i, DL.shr_i, DL.and_i, DL.lt_i, DL.gt_i, DL.le_i, DL.ge_i, DL.eq_i, DL.eq_s, DL.eq_b, DL.ne_i, DL.ne_s, DL.ne_b, DL.is_non, DL.isnt_non, DL.iN_n, DL.iN_b, DL.iN_i, DL.iN_s, DL.iN_t, DL.iN_l, DL.len_l, DL.len_t, DL.len_s, DL.int_i, DL.int_b, DL.abs_i, DL.tup_l, DL.tup_t, DL.lst_l, DL.lst_t, DL.max_i, DL.min_i, DL.all_b, DL.any_b, DL.isi_bb, DL.isi_bi, DL.isi_bs, DL.isi_bn, DL.isi_bt, DL.isi_bl, DL.isi_ib, DL.isi_ii, DL.isi_is, DL.isi_in, DL.isi_it, DL.isi_il, DL.isi_sb, DL.isi_si, DL.isi_ss, DL.isi_sn, DL.isi_st, DL.isi_sl, DL.isi_tb, DL.isi_ti, DL.isi_ts, DL.isi_tn, DL.isi_tt, DL.isi_tl, DL.isi_lb, DL.isi_li, DL.isi_ls, DL.isi_ln, DL.isi_lt, DL.isi_ll, DL.tyD_s, DL.tyD_t, DL.tyD_l, DL.tyD_i, DL.kIx_s, DL.ix_l, DL.ix_t, DL.at_0, DL.at_1, DL.at_2, DL.at_3, DL.at_4, DL.ixN_lt, DL.app_F, DL.ext_F, DL.add_l, DL.add_t, DL.sl_l, DL.sl_t])
local macro_rules | `(tactic| simp_arith [$ls,*] $l:location) => `(tactic| simp (disch := first | (refine id ?_; with_unfolding_all rfl) | assumption | omega | (simp only [DL.l_lenS, DL.l_lenN, DL.l_lenM, DL.l_lenA]; omega)) only [$ls,*, DL.kGet_fz, DL.kGet_ow, DL.kGet_io, DL.get_v, DL.get_s, DL.r_name, DL.kName_fz, DL.kName_ow, DL.r_slot, DL.kSlot_fz, DL.kSlot_ow, DL.kSlot_io, DL.r_move, DL.kMove_fz, DL.kMove_ow, DL.r_pure, DL.r_F, DL.kF_fz, DL.kF_ow, DL.kF_ex, DL.r_O, DL.kO_ok, DL.kO_ex, DL.r_B, DL.kB_ok, DL.kB_ex, DL.kFin_some, DL.kB3_some, DL.kB2_ok, DL.kB2_ex, DL.kB1_ok, DL.kB1_ex, DL.r_bin, DL.r_test, DL.kTest_ok, DL.kTest_ex, DL.r_not, DL.kNot_ok, DL.kNot_ex, DL.r_and, DL.kAnd_t, DL.kAnd_f, DL.kAnd_ex, DL.r_or, DL.kOr_t, DL.kOr_f, DL.kOr_ex, DL.r_andT, DL.kAndT_t, DL.kAndT_f, DL.kAndT_ex, DL.r_orT, DL.kOrT_t, DL.kOrT_f, DL.kOrT_ex, DL.r_notT, DL.kNotT_ok, DL.kNotT_ex, DL.r_if, DL.r_lif, DL.kIf_t, DL.kIf_f, DL.kIf_ex, DL.kC2_ok, DL.kC2_ex, DL.kC1_ok, DL.kC1_ex, DL.r_cons, DL.r_consP, DL.r_aoCons, DL.r_aoNil, DL.r_aNil, DL.r_pNil, DL.r_tup, DL.kTup_ok, DL.kTup_ex, DL.r_lst, DL.kLst_ok, DL.kLst_ex, DL.r_rep, DL.kRep_ok, DL.kGA_some, DL.getAll_nil, DL.getAll_cons, DL.kCB2_some, DL.kCB_ok, DL.kCB_ex, DL.r_callB, DL.kMp_some, DL.ca_nil, DL.ca_none, DL.ca_some, DL.kCA_ow, DL.kCA_io, DL.ca_io, DL.ios_none, DL.ios_some, DL.kIos_s, DL.put_none, DL.put_some, DL.kPut_ow, DL.kPut_io, DL.kCall3_ok, DL.kCall3_ex, DL.kCall2_some, DL.kCall_ok, DL.kCall_ex, DL.r_call, DL.kCallK2_ok, DL.kCallK2_ex, DL.kCallK1_len, DL.kCallK_ok, DL.kCallK_ex, DL.r_callK, DL.perm_nil, DL.perm_cons, DL.kPc_some, DL.init_nil, DL.init_none, DL.init_io, DL.init_some, DL.out_none, DL.out_some, DL.kOE_io, DL.kOut_some, DL.kOutX_some, DL.kRun_nx, DL.kRun_rt, DL.kRun_ex, DL.r_run, DL.r_lnil, DL.r_seq, DL.kSeq_nx, DL.kSeq_rt, DL.kSeq_bk, DL.kSeq_ct, DL.kSeq_ex, DL.kSeq_bad, DL.r_drop, DL.kDrop_ok, DL.kDrop_ex, DL.r_ret, DL.kRet_ok, DL.kRet_ex, DL.r_set, DL.kSet2_some, DL.kSet_ok, DL.kSet_ex, DL.kAsg2_ok, DL.kAsg_ok, DL.kAsg_ex, DL.r_asg, DL.kTn_some, DL.t_name, DL.t_nil, DL.kTc_ok, DL.t_cons, DL.t_tup, DL.kSub4_some, DL.kSub3_some, DL.kSub2_ok, DL.kSub_ok, DL.t_sub, DL.ownL_ow, DL.ownL_io, DL.r_par, DL.kPar_ok, DL.kPar_ex, DL.kAug2_some, DL.kAug1_ok, DL.kAug_fz, DL.r_aug, DL.kM5_some, DL.kM4_some, DL.kM3_ok, DL.kM3_ex, DL.kM2_some, DL.kM1_ok, DL.r_meth, DL.kR3_some, DL.kR2_ok, DL.kR2_ex, DL.kR1b_some, DL.kR1_ok, DL.kR1_ex, DL.r_rd, DL.kIsi2_some, DL.kIsi_ok, DL.r_isi, DL.r_part, DL.kPart_ok, DL.kSl4_some, DL.kSl3_ok, DL.kSl2_ok, DL.kSl1_ok, DL.kSl1_ex, DL.r_sl, DL.r_neg, DL.kNeg_ok, DL.kCh4_some, DL.kCh4b_some, DL.kCh3_ok, DL.kCh2c_f, DL.kCh2c_t, DL.kCh2b_some, DL.kCh2_ok, DL.kCh1_ok, DL.r_chain, DL.r_raise, DL.kRaise_ok, DL.kTry3_nx, DL.kTry3_rt, DL.kTry_ok, DL.kTry_in, DL.r_try, DL.noXc_nil, DL.noXc_fz, DL.noXc_ow, DL.noXc_io, DL.noXc_no, DL.r_xval, DL.kXval_xc, DL.r_xis, DL.kXis_xc, DL.kSq2_some, DL.kSq_ok, DL.kSq_ex, DL.r_seqI, DL.seqD_list, DL.seqD_tup, DL.seqD_str, DL.r_rg1, DL.kRg1_ok, DL.r_rg2, DL.kRg2_ok, DL.kZip2_some, DL.r_zip, DL.kZip_ok, DL.kEnum2_some, DL.r_enum, DL.kEnum_ok, DL.kTz2_some, DL.kTz_ok, DL.r_tz, DL.r_for, DL.kFor_ok, DL.kFor_ex, DL.r_turn, DL.kTurn_ok, DL.for_nil, DL.kLoop_nx, DL.kLoop_ct, DL.kLoop_bk, DL.kLoop_rt, DL.kLoop_ex, DL.kLc2_ok, DL.kLc_ok, DL.kLc_ex, DL.r_lc, DL.fix_nil, DL.fix_cons, DL.kFx_none, DL.kFx_fz, DL.kFx_no, DL.kFx_ow, DL.kFx_io, DL.kItem3_ok, DL.kItem2_t, DL.kItem2_f, DL.kItem_ok, DL.r_item, DL.r_yes, DL.lc_nil, DL.kLcL_some, DL.kLcL_none, DL.l_get0, DL.l_getS, DL.l_getN, DL.l_set0, DL.l_setS, DL.l_rep0, DL.l_repS, DL.l_app, DL.l_app0, DL.l_appN, DL.l_lenN, DL.l_lenS, DL.l_lenM, DL.l_lenA, DL.l_lenR, DL.l_cat0, DL.l_cat1, DL.setEn_c, DL.setEn_n, DL.b_dT, DL.b_dF, DL.b_nt, DL.b_nf, DL.b_nn, DL.b_at, DL.b_af, DL.b_ta, DL.b_fa, DL.b_ot, DL.b_of, DL.b_to, DL.b_fo, DL.b_tt, DL.b_ff, DL.b_tf, DL.b_ft, DL.b_nT, DL.b_nF, DL.b_iT, DL.b_iF, DL.kIf_not, DL.kAndT_not, DL.add_i, DL.sub_i, DL.mul_r, DL.mul_l, DL.mul_w, DL.fdiv_i, DL.mod_i, DL.pow_i, DL.shl_i, DL.shr_i, DL.and_i, DL.lt_i, DL.gt_i, DL.le_i, DL.ge_i, DL.eq_i, DL.eq_s, DL.eq_b, DL.ne_i, DL.ne_s, DL.ne_b, DL.is_non, DL.isnt_non, DL.iN_n, DL.iN_b, DL.iN_i, DL.iN_s, DL.iN_t, DL.iN_l, DL.len_l, DL.len_t, DL.len_s, DL.int_i, DL.int_b, DL.abs_i, DL.tup_l, DL.tup_t, DL.lst_l, DL.lst_t, DL.max_i, DL.min_i, DL.all_b, DL.any_b, DL.isi_bb, DL.isi_bi, DL.isi_bs, DL.isi_bn, DL.isi_bt, DL.isi_bl, DL.isi_ib, DL.isi_ii, DL.isi_is, DL.isi_in, DL.isi_it, DL.isi_il, DL.isi_sb, DL.isi_si, DL.isi_ss, DL.isi_sn, DL.isi_st, DL.isi_sl, DL.isi_tb, DL.isi_ti, DL.isi_ts, DL.isi_tn, DL.isi_tt, DL.isi_tl, DL.isi_lb, DL.isi_li, DL.isi_ls, DL.isi_ln, DL.isi_lt, DL.isi_ll, DL.tyD_s, DL.tyD_t, DL.tyD_l, DL.tyD_i, DL.kIx_s, DL.ix_l, DL.ix_t, DL.at_0, DL.at_1, DL.at_2, DL.at_3, DL.at_4, DL.ixN_lt, DL.app_F, DL.ext_F, DL.add_l, DL.add_t, DL.sl_l, DL.sl_t] $l)
theorem one_of_ok {n : Nat} {d : D} {xs : List D} (h : Sd n d) (hn : n ≤ 900000) (hl : 2 ≤ xs.length) (hl2 : xs.length ≤ 1000) : ∃ x d', f__law_one_of [d, .list xs] = .ok (.fz x) d' ∧ x ∈ xs ∧ Sd (n + 1) d' := by
  obtain ⟨r, d', e1, e2, e3, e4⟩ := any_ok (m := (xs.length : Int)) h hn (by omega) (by omega)
  have ix := atI_lt xs e2 e3
  refine ⟨xs[r.toNat]'(by omega), d', ?_, List.getElem_mem _, e4⟩
  simp_arith [seval, f__law_one_of, r_run, g__law_one_of, e1, ix]
/-! ### what is read of each text -/
def goodE (d : D) : Bool := decide (d.depth ≤ 64) && d.canLay0
def rdB (way : Int) (t : D) : Bool := goodE (.tuple [.bool true, t]) && (match f__law_read [.int way, t] with
  | .ok (.fz d) _ => DL.same d (.tuple [.bool true, t])
  | _ => false)
theorem ne_self {d : D} (h : goodE d = true) : neD d d = some (.fz (.bool false)) := by
  unfold goodE at h
  rw [Bool.and_eq_true, decide_eq_true_eq] at h
  unfold neD
  rw [if_pos (okDp_l h.1), SeqAt.eqv_refl d h.2]
  rfl
theorem eq_self' {d : D} (h : goodE d = true) : eqD d d = some (.fz (.bool true)) := by
  unfold goodE at h
  rw [Bool.and_eq_true, decide_eq_true_eq] at h
  unfold eqD
  rw [if_pos (okDp_l h.1), SeqAt.eqv_refl d h.2]
theorem rdB_ok {way : Int} {t : D} (h : rdB way t = true) : (∃ o, f__law_read [.int way, t] = .ok (.fz (.tuple [.bool true, t])) o) ∧ neD (.tuple [.bool true, t]) (.tuple [.bool true, t]) = some (.fz (.bool false)) := by
  unfold rdB at h
  rw [Bool.and_eq_true] at h
  refine ⟨?_, ne_self h.1⟩
  have z := h.2
  split at z
  · rename_i d o e
    rw [same_ok z] at e
    exact ⟨o, e⟩
  · cases z
def rdR (way : Int) (t want : D) : Bool := rGood [want] && (match f__law_read [.int way, t] with
  | .ok (.fz d) _ => DL.same d (.list [want])
  | .ok (.ow d) _ => DL.same d (.list [want])
  | _ => false)
theorem rdR_ok {way : Int} {t w : D} (h : rdR way t w = true) : (∃ x o, f__law_read [.int way, t] = .ok x o ∧ (x = .fz (.list [w]) ∨ x = .ow (.list [w]))) ∧ reprF [.list [w]] = some (.fz (.str (PyData.shown (.list [w])))) := by
  unfold rdR at h
  rw [Bool.and_eq_true] at h
  refine ⟨?_, reprF_list h.1⟩
  have z := h.2
  split at z
  · rename_i d o e
    rw [same_ok z] at e
    exact ⟨_, o, e, .inl rfl⟩
  · rename_i d o e
    rw [same_ok z] at e
    exact ⟨_, o, e, .inr rfl⟩
  · cases z
def lstOf (r : R D Ent) : List D := match r with
  | .ok (.fz (.list xs)) _ => xs
  | .ok (.ow (.list xs)) _ => xs
  | _ => []
theorem odd_ok : ((lstOf (f__law_odd_sayings [])).all fun t => rdB 0 t && rdB 1 t) = true := by decide +kernel
theorem fine_ok : ((lstOf (f__law_fine_sayings [])).all fun d => match d with
  | .tuple [t, w] => rdR 0 t w && rdR 1 t w
  | _ => false) = true := by decide +kernel
def noneL : List D := [.str "", .str " ", .str "-", .str "a ", .str " a", .str "a  b", .str "b a", .str "a a", .str "a -a", .str "A", .str "a1", .str ". .", .str ".a", .str "a .", .str "a.", .str "--a", .str "- a", .str "abcdefghi", .str "a;b", .str "a ; b", .str "a\n", .str "-a -a", .str "b -a", .str "pick -"]
def clauseL : List D := [.tuple [], .tuple [.tuple [.str "a", .bool true]], .tuple [.tuple [.str "a", .bool false], .tuple [.str "b", .bool true]], .tuple [.tuple [.str "abcdefgh", .bool false]], .tuple [.tuple [.str "own", .bool true], .tuple [.str "pick", .bool false]], .tuple [.tuple [.str "aa", .bool true], .tuple [.str "abb", .bool false], .tuple [.str "abcc", .bool true], .tuple [.str "abcf", .bool false], .tuple [.str "abci", .bool true], .tuple [.str "abcl", .bool false], .tuple [.str "abco", .bool true], .tuple [.str "abcr", .bool false], .tuple [.str "abcu", .bool true], .tuple [.str "abcx", .bool false], .tuple [.str "abe", .bool true], .tuple [.str "abh", .bool false], .tuple [.str "abk", .bool true], .tuple [.str "abn", .bool false], .tuple [.str "abq", .bool true], .tuple [.str "abt", .bool false], .tuple [.str "abw", .bool true], .tuple [.str "abz", .bool false], .tuple [.str "ad", .bool false], .tuple [.str "ag", .bool true], .tuple [.str "aj", .bool false], .tuple [.str "am", .bool true], .tuple [.str "ap", .bool false], .tuple [.str "as", .bool true], .tuple [.str "av", .bool false], .tuple [.str "ay", .bool true]]]
def thingL : List D := [.none, .int 5, .bool true, .list [.str "pick -"], .tuple [.str "a"], .tuple [], .list [.list [.str "a"]]]
theorem none_ok : (noneL.all fun t => rdB 2 t && rdB 3 t) = true := by decide +kernel
def wordOf (c : D) : D := match f__law_word [c] with
  | .ok (.fz d) _ => d
  | _ => .none
theorem clause_ok : (clauseL.all fun c => (match f__law_word [c] with | .ok (.fz (.str x)) .none => true | _ => false) && (rdR 2 (wordOf c) c && rdR 3 (wordOf c) c)) = true := by decide +kernel
theorem thing_ok : (thingL.all fun t => goodE (.list [.tuple [.bool true, t], .tuple [.bool true, t], .tuple [.bool true, t], .tuple [.bool true, t]]) && (rdB 0 t && (rdB 1 t && (rdB 2 t && rdB 3 t)))) = true := by decide +kernel
end KH
end
section
set_option maxRecDepth 100000
set_option maxHeartbeats 4000000
namespace KH
open PySem PySem.Spec L2 DL
open PyProof.Rows hiding St
local macro_rules | `(tactic| simp_arith [$ls,*]) => `(tactic| simp (disch := first | (refine id ?_; with_unfolding_all rfl) | assumption | omega | (simp only [DL.l_lenS, DL.l_lenN, DL.l_lenM, DL.l_lenA]; omega)) only [$ls,*, DL.kGet_fz, DL.kGet_ow, DL.kGet_io, DL.get_v, DL.get_s, DL.r_name, DL.kName_fz, DL.kName_ow, DL.r_slot, DL.kSlot_fz, DL.kSlot_ow, DL.kSlot_io, DL.r_move, DL.kMove_fz, DL.kMove_ow, DL.r_pure, DL.r_F, DL.kF_fz, DL.kF_ow, DL.kF_ex, DL.r_O, DL.kO_ok, DL.kO_ex, DL.r_B, DL.kB_ok, DL.kB_ex, DL.kFin_some, DL.kB3_some, DL.kB2_ok, DL.kB2_ex, DL.kB1_ok, DL.kB1_ex, DL.r_bin, DL.r_test, DL.kTest_ok, DL.kTest_ex, DL.r_not, DL.kNot_ok, DL.kNot_ex, DL.r_and, DL.kAnd_t, DL.kAnd_f, DL.kAnd_ex, DL.r_or, DL.kOr_t, DL.kOr_f, DL.kOr_ex, DL.r_andT, DL.kAndT_t, DL.kAndT_f, DL.kAndT_ex, DL.r_orT, DL.kOrT_t, DL.kOrT_f, DL.kOrT_ex, DL.r_notT, DL.kNotT_ok, DL.kNotT_ex, DL.r_if, DL.r_lif, DL.kIf_t, DL.kIf_f, DL.kIf_ex, DL.kC2_ok, DL.kC2_ex, DL.kC1_ok, DL.kC1_ex, DL.r_cons, DL.r_consP, DL.r_aoCons, DL.r_aoNil, DL.r_aNil, DL.r_pNil, DL.r_tup, DL.kTup_ok, DL.kTup_ex, DL.r_lst, DL.kLst_ok, DL.kLst_ex, DL.r_rep, DL.kRep_ok, DL.kGA_some, DL.getAll_nil, DL.getAll_cons, DL.kCB2_some, DL.kCB_ok, DL.kCB_ex, DL.r_callB, DL.kMp_some, DL.ca_nil, DL.ca_none, DL.ca_some, DL.kCA_ow, DL.kCA_io, DL.ca_io, DL.ios_none, DL.ios_some, DL.kIos_s, DL.put_none, DL.put_some, DL.kPut_ow, DL.kPut_io, DL.kCall3_ok, DL.kCall3_ex, DL.kCall2_some, DL.kCall_ok, DL.kCall_ex, DL.r_call, DL.kCallK2_ok, DL.kCallK2_ex, DL.kCallK1_len, DL.kCallK_ok, DL.kCallK_ex, DL.r_callK, DL.perm_nil, DL.perm_cons, DL.kPc_some, DL.init_nil, DL.init_none, DL.init_io, DL.init_some, DL.out_none, DL.out_some, DL.kOE_io, DL.kOut_some, DL.kOutX_some, DL.kRun_nx, DL.kRun_rt, DL.kRun_ex, DL.r_run, DL.r_lnil, DL.r_seq, DL.kSeq_nx, DL.kSeq_rt, DL.kSeq_bk, DL.kSeq_ct, DL.kSeq_ex, DL.kSeq_bad, DL.r_drop, DL.kDrop_ok, DL.kDrop_ex, DL.r_ret, DL.kRet_ok, DL.kRet_ex, DL.r_set, DL.kSet2_some, DL.kSet_ok, DL.kSet_ex, DL.kAsg2_ok, DL.kAsg_ok, DL.kAsg_ex, DL.r_asg, DL.kTn_some, DL.t_name, DL.t_nil, DL.kTc_ok, DL.t_cons, DL.t_tup, DL.kSub4_some, DL.kSub3_some, DL.kSub2_ok, DL.kSub_ok, DL.t_sub, DL.ownL_ow, DL.ownL_io, DL.r_par, DL.kPar_ok, DL.kPar_ex, DL.kAug2_some, DL.kAug1_ok, DL.kAug_fz, DL.r_aug, DL.kM5_some, DL.kM4_some, DL.kM3_ok, DL.kM3_ex, DL.kM2_some, DL.kM1_ok, DL.r_meth, DL.kR3_some, DL.kR2_ok, DL.kR2_ex, DL.kR1b_some, DL.kR1_ok, DL.kR1_ex, DL.r_rd, DL.kIsi2_some, DL.kIsi_ok, DL.r_isi, DL.r_part, DL.kPart_ok, DL.kSl4_some, DL.kSl3_ok, DL.kSl2_ok, DL.kSl1_ok, DL.kSl1_ex, DL.r_sl, DL.r_neg, DL.kNeg_ok, DL.kCh4_some, DL.kCh4b_some, DL.kCh3_ok, DL.kCh2c_f, DL.kCh2c_t, DL.kCh2b_some, DL.kCh2_ok, DL.kCh1_ok, DL.r_chain, DL.r_raise, DL.kRaise_ok, DL.kTry3_nx, DL.kTry3_rt, DL.kTry_ok, DL.kTry_in, DL.r_try, DL.noXc_nil, DL.noXc_fz, DL.noXc_ow, DL.noXc_io, DL.noXc_no, DL.r_xval, DL.kXval_xc, DL.r_xis, DL.kXis_xc, DL.kSq2_some, DL.kSq_ok, DL.kSq_ex, DL.r_seqI, DL.seqD_list, DL.seqD_tup, DL.seqD_str, DL.r_rg1, DL.kRg1_ok, DL.r_rg2, DL.kRg2_ok, DL.kZip2_some, DL.r_zip, DL.kZip_ok, DL.kEnum2_some, DL.r_enum, DL.kEnum_ok, DL.kTz2_some, DL.kTz_ok, DL.r_tz, DL.r_for, DL.kFor_ok, DL.kFor_ex, DL.r_turn, DL.kTurn_ok, DL.for_nil, DL.kLoop_nx, DL.kLoop_ct, DL.kLoop_bk, DL.kLoop_rt, DL.kLoop_ex, DL.kLc2_ok, DL.kLc_ok, DL.kLc_ex, DL.r_lc, DL.fix_nil, DL.fix_cons, DL.kFx_none, DL.kFx_fz, DL.kFx_no, DL.kFx_ow, DL.kFx_io, DL.kItem3_ok, DL.kItem2_t, DL.kItem2_f, DL.kItem_ok, DL.r_item, DL.r_yes, DL.lc_nil, DL.kLcL_some, DL.kLcL_none, DL.l_get0, DL.l_getS, DL.l_getN, DL.l_set0, DL.l_setS, DL.l_rep0, DL.l_repS, DL.l_app, DL.l_app0, DL.l_appN, DL.l_lenN, DL.l_lenS, DL.l_lenM, DL.l_lenA, DL.l_lenR, DL.l_cat0, DL.l_cat1, DL.setEn_c, DL.setEn_n, DL.b_dT, DL.b_dF, DL.b_nt, DL.b_nf, DL.b_nn, DL.b_at, DL.b_af, DL.b_ta, DL.b_fa, DL.b_ot, DL.b_of, DL.b_to, DL.b_fo, DL.b_tt, DL.b_ff, DL.b_tf, DL.b_ft, DL.b_nT, DL.b_nF, DL.b_iT, DL.b_iF, DL.kIf_not, DL.kAndT_not, DL.add_i, DL.sub_i, DL.mul_r, DL.mul_l, DL.mul_w, DL.fdiv_i, DL.mod_i, DL.pow_i, DL.shl_i, DL.shr_i, DL.and_i, DL.lt_i, DL.gt_i, DL.le_i, DL.ge_i, DL.eq_i, DL.eq_s, DL.eq_b, DL.ne_i, DL.ne_s, DL.ne_b, DL.is_non, DL.isnt_non, DL.iN_n, DL.iN_b, DL.iN_i, DL.iN_s, DL.iN_t, DL.iN_l, DL.len_l, DL.len_t, DL.len_s, DL.int_i, DL.int_b, DL.abs_i, DL.tup_l, DL.tup_t, DL.lst_l, DL.lst_t, DL.max_i, DL.min_i, DL.all_b, DL.any_b, DL.isi_bb, DL.isi_bi, DL.isi_bs, DL.isi_bn, DL.isi_bt, DL.isi_bl, DL.isi_ib, DL.isi_ii, DL.isi_is, DL.isi_in, DL.isi_it, DL.isi_il, DL.isi_sb, DL.isi_si, DL.isi_ss, DL.isi_sn, DL.isi_st, DL.isi_sl, DL.isi_tb, DL.isi_ti, DL.isi_ts, DL.isi_tn, DL.isi_tt, DL.isi_tl, DL.isi_lb, DL.isi_li, DL.isi_ls, DL.isi_ln, DL.isi_lt, DL.isi_ll, DL.tyD_s, DL.tyD_t, DL.tyD_l, DL.tyD_i, DL.kIx_s, DL.ix_l, DL.ix_t, DL.at_0, DL.at_1, DL.at_2, DL.at_3, DL.at_4, DL.ixN_lt, DL.app_F, DL.ext_F, DL.add_l, DL.add_t, DL.sl_l, DL.sl_t])
local macro_rules | `(tactic| simp_arith [$ls,*] $l:location) => `(tactic| simp (disch := first | (refine id ?_; with_unfolding_all rfl) | assumption | omega | (simp only [DL.l_lenS, DL.l_lenN, DL.l_lenM, DL.l_lenA]; omega)) only [$ls,*, DL.kGet_fz, DL.kGet_ow, DL.kGet_io, DL.get_v, DL.get_s, DL.r_name, DL.kName_fz, DL.kName_ow, DL.r_slot, DL.kSlot_fz, DL.kSlot_ow, DL.kSlot_io, DL.r_move, DL.kMove_fz, DL.kMove_ow, DL.r_pure, DL.r_F, DL.kF_fz, DL.kF_ow, DL.kF_ex, DL.r_O, DL.kO_ok, DL.kO_ex, DL.r_B, DL.kB_ok, DL.kB_ex, DL.kFin_some, DL.kB3_some, DL.kB2_ok, DL.kB2_ex, DL.kB1_ok, DL.kB1_ex, DL.r_bin, DL.r_test, DL.kTest_ok, DL.kTest_ex, DL.r_not, DL.kNot_ok, DL.kNot_ex, DL.r_and, DL.kAnd_t, DL.kAnd_f, DL.kAnd_ex, DL.r_or, DL.kOr_t, DL.kOr_f, DL.kOr_ex, DL.r_andT, DL.kAndT_t, DL.kAndT_f, DL.kAndT_ex, DL.r_orT, DL.kOrT_t, DL.kOrT_f, DL.kOrT_ex, DL.r_notT, DL.kNotT_ok, DL.kNotT_ex, DL.r_if, DL.r_lif, DL.kIf_t, DL.kIf_f, DL.kIf_ex, DL.kC2_ok, DL.kC2_ex, DL.kC1_ok, DL.kC1_ex, DL.r_cons, DL.r_consP, DL.r_aoCons, DL.r_aoNil, DL.r_aNil, DL.r_pNil, DL.r_tup, DL.kTup_ok, DL.kTup_ex, DL.r_lst, DL.kLst_ok, DL.kLst_ex, DL.r_rep, DL.kRep_ok, DL.kGA_some, DL.getAll_nil, DL.getAll_cons, DL.kCB2_some, DL.kCB_ok, DL.kCB_ex, DL.r_callB, DL.kMp_some, DL.ca_nil, DL.ca_none, DL.ca_some, DL.kCA_ow, DL.kCA_io, DL.ca_io, DL.ios_none, DL.ios_some, DL.kIos_s, DL.put_none, DL.put_some, DL.kPut_ow, DL.kPut_io, DL.kCall3_ok, DL.kCall3_ex, DL.kCall2_some, DL.kCall_ok, DL.kCall_ex, DL.r_call, DL.kCallK2_ok, DL.kCallK2_ex, DL.kCallK1_len, DL.kCallK_ok, DL.kCallK_ex, DL.r_callK, DL.perm_nil, DL.perm_cons, DL.kPc_some, DL.init_nil, DL.init_none, DL.init_io, DL.init_some, DL.out_none, DL.out_some, DL.kOE_io, DL.kOut_some, DL.kOutX_some, DL.kRun_nx, DL.kRun_rt, DL.kRun_ex, DL.r_run, DL.r_lnil, DL.r_seq, DL.kSeq_nx, DL.kSeq_rt, DL.kSeq_bk, DL.kSeq_ct, DL.kSeq_ex, DL.kSeq_bad, DL.r_drop, DL.kDrop_ok, DL.kDrop_ex, DL.r_ret, DL.kRet_ok, DL.kRet_ex, DL.r_set, DL.kSet2_some, DL.kSet_ok, DL.kSet_ex, DL.kAsg2_ok, DL.kAsg_ok, DL.kAsg_ex, DL.r_asg, DL.kTn_some, DL.t_name, DL.t_nil, DL.kTc_ok, DL.t_cons, DL.t_tup, DL.kSub4_some, DL.kSub3_some, DL.kSub2_ok, DL.kSub_ok, DL.t_sub, DL.ownL_ow, DL.ownL_io, DL.r_par, DL.kPar_ok, DL.kPar_ex, DL.kAug2_some, DL.kAug1_ok, DL.kAug_fz, DL.r_aug, DL.kM5_some, DL.kM4_some, DL.kM3_ok, DL.kM3_ex, DL.kM2_some, DL.kM1_ok, DL.r_meth, DL.kR3_some, DL.kR2_ok, DL.kR2_ex, DL.kR1b_some, DL.kR1_ok, DL.kR1_ex, DL.r_rd, DL.kIsi2_some, DL.kIsi_ok, DL.r_isi, DL.r_part, DL.kPart_ok, DL.kSl4_some, DL.kSl3_ok, DL.kSl2_ok, DL.kSl1_ok, DL.kSl1_ex, DL.r_sl, DL.r_neg, DL.kNeg_ok, DL.kCh4_some, DL.kCh4b_some, DL.kCh3_ok, DL.kCh2c_f, DL.kCh2c_t, DL.kCh2b_some, DL.kCh2_ok, DL.kCh1_ok, DL.r_chain, DL.r_raise, DL.kRaise_ok, DL.kTry3_nx, DL.kTry3_rt, DL.kTry_ok, DL.kTry_in, DL.r_try, DL.noXc_nil, DL.noXc_fz, DL.noXc_ow, DL.noXc_io, DL.noXc_no, DL.r_xval, DL.kXval_xc, DL.r_xis, DL.kXis_xc, DL.kSq2_some, DL.kSq_ok, DL.kSq_ex, DL.r_seqI, DL.seqD_list, DL.seqD_tup, DL.seqD_str, DL.r_rg1, DL.kRg1_ok, DL.r_rg2, DL.kRg2_ok, DL.kZip2_some, DL.r_zip, DL.kZip_ok, DL.kEnum2_some, DL.r_enum, DL.kEnum_ok, DL.kTz2_some, DL.kTz_ok, DL.r_tz, DL.r_for, DL.kFor_ok, DL.kFor_ex, DL.r_turn, DL.kTurn_ok, DL.for_nil, DL.kLoop_nx, DL.kLoop_ct, DL.kLoop_bk, DL.kLoop_rt, DL.kLoop_ex, DL.kLc2_ok, DL.kLc_ok, DL.kLc_ex, DL.r_lc, DL.fix_nil, DL.fix_cons, DL.kFx_none, DL.kFx_fz, DL.kFx_no, DL.kFx_ow, DL.kFx_io, DL.kItem3_ok, DL.kItem2_t, DL.kItem2_f, DL.kItem_ok, DL.r_item, DL.r_yes, DL.lc_nil, DL.kLcL_some, DL.kLcL_none, DL.l_get0, DL.l_getS, DL.l_getN, DL.l_set0, DL.l_setS, DL.l_rep0, DL.l_repS, DL.l_app, DL.l_app0, DL.l_appN, DL.l_lenN, DL.l_lenS, DL.l_lenM, DL.l_lenA, DL.l_lenR, DL.l_cat0, DL.l_cat1, DL.setEn_c, DL.setEn_n, DL.b_dT, DL.b_dF, DL.b_nt, DL.b_nf, DL.b_nn, DL.b_at, DL.b_af, DL.b_ta, DL.b_fa, DL.b_ot, DL.b_of, DL.b_to, DL.b_fo, DL.b_tt, DL.b_ff, DL.b_tf, DL.b_ft, DL.b_nT, DL.b_nF, DL.b_iT, DL.b_iF, DL.kIf_not, DL.kAndT_not, DL.add_i, DL.sub_i, DL.mul_r, DL.mul_l, DL.mul_w, DL.fdiv_i, DL.mod_i, DL.pow_i, DL.shl_i, DL.shr_i, DL.and_i, DL.lt_i, DL.gt_i, DL.le_i, DL.ge_i, DL.eq_i, DL.eq_s, DL.eq_b, DL.ne_i, DL.ne_s, DL.ne_b, DL.is_non, DL.isnt_non, DL.iN_n, DL.iN_b, DL.iN_i, DL.iN_s, DL.iN_t, DL.iN_l, DL.len_l, DL.len_t, DL.len_s, DL.int_i, DL.int_b, DL.abs_i, DL.tup_l, DL.tup_t, DL.lst_l, DL.lst_t, DL.max_i, DL.min_i, DL.all_b, DL.any_b, DL.isi_bb, DL.isi_bi, DL.isi_bs, DL.isi_bn, DL.isi_bt, DL.isi_bl, DL.isi_ib, DL.isi_ii, DL.isi_is, DL.isi_in, DL.isi_it, DL.isi_il, DL.isi_sb, DL.isi_si, DL.isi_ss, DL.isi_sn, DL.isi_st, DL.isi_sl, DL.isi_tb, DL.isi_ti, DL.isi_ts, DL.isi_tn, DL.isi_tt, DL.isi_tl, DL.isi_lb, DL.isi_li, DL.isi_ls, DL.isi_ln, DL.isi_lt, DL.isi_ll, DL.tyD_s, DL.tyD_t, DL.tyD_l, DL.tyD_i, DL.kIx_s, DL.ix_l, DL.ix_t, DL.at_0, DL.at_1, DL.at_2, DL.at_3, DL.at_4, DL.ixN_lt, DL.app_F, DL.ext_F, DL.add_l, DL.add_t, DL.sl_l, DL.sl_t] $l)
def listOf (r : R D Ent) : List D := match r with
  | .ok (.fz (.list xs)) _ => xs
  | .ok (.ow (.list xs)) _ => xs
  | _ => []
def bits6 : List D := listOf (f__law_bits [.int 6])
theorem bits6_ok : f__law_bits [.int 6] = .ok (.fz (.list bits6)) .none := by kernel_rfl
def sixN : List D := [.str "a", .str "b", .str "c", .str "d", .str "e", .str "f"]
def rowsM (n : Int) : List D := (cutD bits6 none (some n)).map fun r => match r with
  | .tuple xs => .tuple (pairs sixN xs)
  | d => d
def lastM (n : Int) : D := (cutD bits6 none (some n)).getD (n.toNat - 1) .none
def strOf (d : D) : Str := match d with
  | .str x => x
  | _ => ""
def wordS (c : D) : Str := strOf (wordOf c)
def partsM (n : Int) : List Str := "pick a b c d e f" :: (rowsM n).map wordS
def textM (n : Int) : D := .str (Txt.join semi (partsM n))
def sayM (n : Int) : D := .tuple [.tuple sixN, .tuple [], .tuple (rowsM n)]
/-- what the kernel shows for one number of clauses -/
structure Many (n : Int) (b : Bool) : Prop where
  loop : ∀ a e, forL (tName 3) b__law_many_1 (cutD bits6 none (some n)) [a, .fz (.tuple sixN), .ow (.list []), .no, e] = .ok .nx [a, .fz (.tuple sixN), .ow (.list (rowsM n)), .fz (lastM n), e]
  sort : (sortable (rowsM n) && (permB (rowsM n) (rowsM n) && risB (rowsM n))) = true
  words : ∀ a b c d, lcL (tName 4) yes e__law_many_1 [4] (rowsM n) [] [a, b, c, d, .no] = .ok ((partsM n).tail.map PyData.str) [a, b, c, d, .no]
  small : (decide (((partsM n).map (·.length)).sum + (partsM n).length * 3 ≤ 16777214) && ((partsM n).all PyData.strOk && (partsM n).all fun x => x.cps.all fun c => decide (c ≠ 59))) = true
  owns : ∀ a b, lcL (tName 5) q_saying_in_1 e_saying_in_1 [5] (cutD ((partsM n).map PyData.str) (some 1) none) [] [a, b, .no, .no, .no, .no] = .ok [] [a, b, .no, .no, .no, .no]
  clauses : ∀ a b c, lcL (tName 5) q_saying_in_2 e_saying_in_2 [5] (cutD ((partsM n).map PyData.str) (some 1) none) [] [a, b, c, .no, .no, .no] = .ok (rowsM n) [a, b, c, .no, .no, .no]
  good : f_is_a_saying [sayM n] = .ok (.fz (.bool b)) .none
  show_ : ∀ a b c d e f g, lcL (tName 7) yes e_show_saying_2 [7] (rowsM n) [] [a, b, c, d, e, f, g, .no] = .ok ((partsM n).tail.map PyData.str) [a, b, c, d, e, f, g, .no]
  depth : (decide ((PyData.list [sayM n]).depth ≤ 64) && (PyData.list [sayM n]).canLay0) = true
theorem many40 : Many 40 true := ⟨fun _ _ => by kernel_rfl, by decide +kernel, fun _ _ _ _ => by kernel_rfl, by decide +kernel, fun _ _ => by kernel_rfl, fun _ _ _ => by kernel_rfl, by kernel_rfl, fun _ _ _ _ _ _ _ => by kernel_rfl, by decide +kernel⟩
theorem many41 : Many 41 false := ⟨fun _ _ => by kernel_rfl, by decide +kernel, fun _ _ _ _ => by kernel_rfl, by decide +kernel, fun _ _ => by kernel_rfl, fun _ _ _ => by kernel_rfl, by kernel_rfl, fun _ _ _ _ _ _ _ => by kernel_rfl, by decide +kernel⟩
theorem many39 : Many 39 true := ⟨fun _ _ => by kernel_rfl, by decide +kernel, fun _ _ _ _ => by kernel_rfl, by decide +kernel, fun _ _ => by kernel_rfl, fun _ _ _ => by kernel_rfl, by kernel_rfl, fun _ _ _ _ _ _ _ => by kernel_rfl, by decide +kernel⟩
end KH
end
section
set_option maxRecDepth 100000
set_option maxHeartbeats 4000000
namespace KH
open PySem PySem.Spec L2 DL
open PyProof.Rows hiding St
local macro_rules | `(tactic| simp_arith [$ls,*]) => `(tactic| simp (disch := first | (refine id ?_; with_unfolding_all rfl) | assumption | omega | (simp only [DL.l_lenS, DL.l_lenN, DL.l_lenM, DL.l_lenA]; omega)) only [$ls,*, DL.kGet_fz, DL.kGet_ow, DL.kGet_io, DL.get_v, DL.get_s, DL.r_name, DL.kName_fz, DL.kName_ow, DL.r_slot, DL.kSlot_fz, DL.kSlot_ow, DL.kSlot_io, DL.r_move, DL.kMove_fz, DL.kMove_ow, DL.r_pure, DL.r_F, DL.kF_fz, DL.kF_ow, DL.kF_ex, DL.r_O, DL.kO_ok, DL.kO_ex, DL.r_B, DL.kB_ok, DL.kB_ex, DL.kFin_some, DL.kB3_some, DL.kB2_ok, DL.kB2_ex, DL.kB1_ok, DL.kB1_ex, DL.r_bin, DL.r_test, DL.kTest_ok, DL.kTest_ex, DL.r_not, DL.kNot_ok, DL.kNot_ex, DL.r_and, DL.kAnd_t, DL.kAnd_f, DL.kAnd_ex, DL.r_or, DL.kOr_t, DL.kOr_f, DL.kOr_ex, DL.r_andT, DL.kAndT_t, DL.kAndT_f, DL.kAndT_ex, DL.r_orT, DL.kOrT_t, DL.kOrT_f, DL.kOrT_ex, DL.r_notT, DL.kNotT_ok, DL.kNotT_ex, DL.r_if, DL.r_lif, DL.kIf_t, DL.kIf_f, DL.kIf_ex, DL.kC2_ok, DL.kC2_ex, DL.kC1_ok, DL.kC1_ex, DL.r_cons, DL.r_consP, DL.r_aoCons, DL.r_aoNil, DL.r_aNil, DL.r_pNil, DL.r_tup, DL.kTup_ok, DL.kTup_ex, DL.r_lst, DL.kLst_ok, DL.kLst_ex, DL.r_rep, DL.kRep_ok, DL.kGA_some, DL.getAll_nil, DL.getAll_cons, DL.kCB2_some, DL.kCB_ok, DL.kCB_ex, DL.r_callB, DL.kMp_some, DL.ca_nil, DL.ca_none, DL.ca_some, DL.kCA_ow, DL.kCA_io, DL.ca_io, DL.ios_none, DL.ios_some, DL.kIos_s, DL.put_none, DL.put_some, DL.kPut_ow, DL.kPut_io, DL.kCall3_ok, DL.kCall3_ex, DL.kCall2_some, DL.kCall_ok, DL.kCall_ex, DL.r_call, DL.kCallK2_ok, DL.kCallK2_ex, DL.kCallK1_len, DL.kCallK_ok, DL.kCallK_ex, DL.r_callK, DL.perm_nil, DL.perm_cons, DL.kPc_some, DL.init_nil, DL.init_none, DL.init_io, DL.init_some, DL.out_none, DL.out_some, DL.kOE_io, DL.kOut_some, DL.kOutX_some, DL.kRun_nx, DL.kRun_rt, DL.kRun_ex, DL.r_run, DL.r_lnil, DL.r_seq, DL.kSeq_nx, DL.kSeq_rt, DL.kSeq_bk, DL.kSeq_ct, DL.kSeq_ex, DL.kSeq_bad, DL.r_drop, DL.kDrop_ok, DL.kDrop_ex, DL.r_ret, DL.kRet_ok, DL.kRet_ex, DL.r_set, DL.kSet2_some, DL.kSet_ok, DL.kSet_ex, DL.kAsg2_ok, DL.kAsg_ok, DL.kAsg_ex, DL.r_asg, DL.kTn_some, DL.t_name, DL.t_nil, DL.kTc_ok, DL.t_cons, DL.t_tup, DL.kSub4_some, DL.kSub3_some, DL.kSub2_ok, DL.kSub_ok, DL.t_sub, DL.ownL_ow, DL.ownL_io, DL.r_par, DL.kPar_ok, DL.kPar_ex, DL.kAug2_some, DL.kAug1_ok, DL.kAug_fz, DL.r_aug, DL.kM5_some, DL.kM4_some, DL.kM3_ok, DL.kM3_ex, DL.kM2_some, DL.kM1_ok, DL.r_meth, DL.kR3_some, DL.kR2_ok, DL.kR2_ex, DL.kR1b_some, DL.kR1_ok, DL.kR1_ex, DL.r_rd, DL.kIsi2_some, DL.kIsi_ok, DL.r_isi, DL.r_part, DL.kPart_ok, DL.kSl4_some, DL.kSl3_ok, DL.kSl2_ok, DL.kSl1_ok, DL.kSl1_ex, DL.r_sl, DL.r_neg, DL.kNeg_ok, DL.kCh4_some, DL.kCh4b_some, DL.kCh3_ok, DL.kCh2c_f, DL.kCh2c_t, DL.kCh2b_some, DL.kCh2_ok, DL.kCh1_ok, DL.r_chain, DL.r_raise, DL.kRaise_ok, DL.kTry3_nx, DL.kTry3_rt, DL.kTry_ok, DL.kTry_in, DL.r_try, DL.noXc_nil, DL.noXc_fz, DL.noXc_ow, DL.noXc_io, DL.noXc_no, DL.r_xval, DL.kXval_xc, DL.r_xis, DL.kXis_xc, DL.kSq2_some, DL.kSq_ok, DL.kSq_ex, DL.r_seqI, DL.seqD_list, DL.seqD_tup, DL.seqD_str, DL.r_rg1, DL.kRg1_ok, DL.r_rg2, DL.kRg2_ok, DL.kZip2_some, DL.r_zip, DL.kZip_ok, DL.kEnum2_some, DL.r_enum, DL.kEnum_ok, DL.kTz2_some, DL.kTz_ok, DL.r_tz, DL.r_for, DL.kFor_ok, DL.kFor_ex, DL.r_turn, DL.kTurn_ok, DL.for_nil, DL.kLoop_nx, DL.kLoop_ct, DL.kLoop_bk, DL.kLoop_rt, DL.kLoop_ex, DL.kLc2_ok, DL.kLc_ok, DL.kLc_ex, DL.r_lc, DL.fix_nil, DL.fix_cons, DL.kFx_none, DL.kFx_fz, DL.kFx_no, DL.kFx_ow, DL.kFx_io, DL.kItem3_ok, DL.kItem2_t, DL.kItem2_f, DL.kItem_ok, DL.r_item, DL.r_yes, DL.lc_nil, DL.kLcL_some, DL.kLcL_none, DL.l_get0, DL.l_getS, DL.l_getN, DL.l_set0, DL.l_setS, DL.l_rep0, DL.l_repS, DL.l_app, DL.l_app0, DL.l_appN, DL.l_lenN, DL.l_lenS, DL.l_lenM, DL.l_lenA, DL.l_lenR, DL.l_cat0, DL.l_cat1, DL.setEn_c, DL.setEn_n, DL.b_dT, DL.b_dF, DL.b_nt, DL.b_nf, DL.b_nn, DL.b_at, DL.b_af, DL.b_ta, DL.b_fa, DL.b_ot, DL.b_of, DL.b_to, DL.b_fo, DL.b_tt, DL.b_ff, DL.b_tf, DL.b_ft, DL.b_nT, DL.b_nF, DL.b_iT, DL.b_iF, DL.kIf_not, DL.kAndT_not, DL.add_i, DL.sub_i, DL.mul_r, DL.mul_l, DL.mul_w, DL.fdiv_i, DL.mod_i, DL.pow_i, DL.shl_i, DL.shr_i, DL.and_i, DL.lt_i, DL.gt_i, DL.le_i, DL.ge_i, DL.eq_i, DL.eq_s, DL.eq_b, DL.ne_i, DL.ne_s, DL.ne_b, DL.is_non, DL.isnt_non, DL.iN_n, DL.iN_b, DL.iN_i, DL.iN_s, DL.iN_t, DL.iN_l, DL.len_l, DL.len_t, DL.len_s, DL.int_i, DL.int_b, DL.abs_i, DL.tup_l, DL.tup_t, DL.lst_l, DL.lst_t, DL.max_i, DL.min_i, DL.all_b, DL.any_b, DL.isi_bb, DL.isi_bi, DL.isi_bs, DL.isi_bn, DL.isi_bt, DL.isi_bl, DL.isi_ib, DL.isi_ii, DL.isi_is, DL.isi_in, DL.isi_it, DL.isi_il, DL.isi_sb, DL.isi_si, DL.isi_ss, DL.isi_sn, DL.isi_st, DL.isi_sl, DL.isi_tb, DL.isi_ti, DL.isi_ts, DL.isi_tn, DL.isi_tt, DL.isi_tl, DL.isi_lb, DL.isi_li, DL.isi_ls, DL.isi_ln, DL.isi_lt, DL.isi_ll, DL.tyD_s, DL.tyD_t, DL.tyD_l, DL.tyD_i, DL.kIx_s, DL.ix_l, DL.ix_t, DL.at_0, DL.at_1, DL.at_2, DL.at_3, DL.at_4, DL.ixN_lt, DL.app_F, DL.ext_F, DL.add_l, DL.add_t, DL.sl_l, DL.sl_t])
local macro_rules | `(tactic| simp_arith [$ls,*] $l:location) => `(tactic| simp (disch := first | (refine id ?_; with_unfolding_all rfl) | assumption | omega | (simp only [DL.l_lenS, DL.l_lenN, DL.l_lenM, DL.l_lenA]; omega)) only [$ls,*, DL.kGet_fz, DL.kGet_ow, DL.kGet_io, DL.get_v, DL.get_s, DL.r_name, DL.kName_fz, DL.kName_ow, DL.r_slot, DL.kSlot_fz, DL.kSlot_ow, DL.kSlot_io, DL.r_move, DL.kMove_fz, DL.kMove_ow, DL.r_pure, DL.r_F, DL.kF_fz, DL.kF_ow, DL.kF_ex, DL.r_O, DL.kO_ok, DL.kO_ex, DL.r_B, DL.kB_ok, DL.kB_ex, DL.kFin_some, DL.kB3_some, DL.kB2_ok, DL.kB2_ex, DL.kB1_ok, DL.kB1_ex, DL.r_bin, DL.r_test, DL.kTest_ok, DL.kTest_ex, DL.r_not, DL.kNot_ok, DL.kNot_ex, DL.r_and, DL.kAnd_t, DL.kAnd_f, DL.kAnd_ex, DL.r_or, DL.kOr_t, DL.kOr_f, DL.kOr_ex, DL.r_andT, DL.kAndT_t, DL.kAndT_f, DL.kAndT_ex, DL.r_orT, DL.kOrT_t, DL.kOrT_f, DL.kOrT_ex, DL.r_notT, DL.kNotT_ok, DL.kNotT_ex, DL.r_if, DL.r_lif, DL.kIf_t, DL.kIf_f, DL.kIf_ex, DL.kC2_ok, DL.kC2_ex, DL.kC1_ok, DL.kC1_ex, DL.r_cons, DL.r_consP, DL.r_aoCons, DL.r_aoNil, DL.r_aNil, DL.r_pNil, DL.r_tup, DL.kTup_ok, DL.kTup_ex, DL.r_lst, DL.kLst_ok, DL.kLst_ex, DL.r_rep, DL.kRep_ok, DL.kGA_some, DL.getAll_nil, DL.getAll_cons, DL.kCB2_some, DL.kCB_ok, DL.kCB_ex, DL.r_callB, DL.kMp_some, DL.ca_nil, DL.ca_none, DL.ca_some, DL.kCA_ow, DL.kCA_io, DL.ca_io, DL.ios_none, DL.ios_some, DL.kIos_s, DL.put_none, DL.put_some, DL.kPut_ow, DL.kPut_io, DL.kCall3_ok, DL.kCall3_ex, DL.kCall2_some, DL.kCall_ok, DL.kCall_ex, DL.r_call, DL.kCallK2_ok, DL.kCallK2_ex, DL.kCallK1_len, DL.kCallK_ok, DL.kCallK_ex, DL.r_callK, DL.perm_nil, DL.perm_cons, DL.kPc_some, DL.init_nil, DL.init_none, DL.init_io, DL.init_some, DL.out_none, DL.out_some, DL.kOE_io, DL.kOut_some, DL.kOutX_some, DL.kRun_nx, DL.kRun_rt, DL.kRun_ex, DL.r_run, DL.r_lnil, DL.r_seq, DL.kSeq_nx, DL.kSeq_rt, DL.kSeq_bk, DL.kSeq_ct, DL.kSeq_ex, DL.kSeq_bad, DL.r_drop, DL.kDrop_ok, DL.kDrop_ex, DL.r_ret, DL.kRet_ok, DL.kRet_ex, DL.r_set, DL.kSet2_some, DL.kSet_ok, DL.kSet_ex, DL.kAsg2_ok, DL.kAsg_ok, DL.kAsg_ex, DL.r_asg, DL.kTn_some, DL.t_name, DL.t_nil, DL.kTc_ok, DL.t_cons, DL.t_tup, DL.kSub4_some, DL.kSub3_some, DL.kSub2_ok, DL.kSub_ok, DL.t_sub, DL.ownL_ow, DL.ownL_io, DL.r_par, DL.kPar_ok, DL.kPar_ex, DL.kAug2_some, DL.kAug1_ok, DL.kAug_fz, DL.r_aug, DL.kM5_some, DL.kM4_some, DL.kM3_ok, DL.kM3_ex, DL.kM2_some, DL.kM1_ok, DL.r_meth, DL.kR3_some, DL.kR2_ok, DL.kR2_ex, DL.kR1b_some, DL.kR1_ok, DL.kR1_ex, DL.r_rd, DL.kIsi2_some, DL.kIsi_ok, DL.r_isi, DL.r_part, DL.kPart_ok, DL.kSl4_some, DL.kSl3_ok, DL.kSl2_ok, DL.kSl1_ok, DL.kSl1_ex, DL.r_sl, DL.r_neg, DL.kNeg_ok, DL.kCh4_some, DL.kCh4b_some, DL.kCh3_ok, DL.kCh2c_f, DL.kCh2c_t, DL.kCh2b_some, DL.kCh2_ok, DL.kCh1_ok, DL.r_chain, DL.r_raise, DL.kRaise_ok, DL.kTry3_nx, DL.kTry3_rt, DL.kTry_ok, DL.kTry_in, DL.r_try, DL.noXc_nil, DL.noXc_fz, DL.noXc_ow, DL.noXc_io, DL.noXc_no, DL.r_xval, DL.kXval_xc, DL.r_xis, DL.kXis_xc, DL.kSq2_some, DL.kSq_ok, DL.kSq_ex, DL.r_seqI, DL.seqD_list, DL.seqD_tup, DL.seqD_str, DL.r_rg1, DL.kRg1_ok, DL.r_rg2, DL.kRg2_ok, DL.kZip2_some, DL.r_zip, DL.kZip_ok, DL.kEnum2_some, DL.r_enum, DL.kEnum_ok, DL.kTz2_some, DL.kTz_ok, DL.r_tz, DL.r_for, DL.kFor_ok, DL.kFor_ex, DL.r_turn, DL.kTurn_ok, DL.for_nil, DL.kLoop_nx, DL.kLoop_ct, DL.kLoop_bk, DL.kLoop_rt, DL.kLoop_ex, DL.kLc2_ok, DL.kLc_ok, DL.kLc_ex, DL.r_lc, DL.fix_nil, DL.fix_cons, DL.kFx_none, DL.kFx_fz, DL.kFx_no, DL.kFx_ow, DL.kFx_io, DL.kItem3_ok, DL.kItem2_t, DL.kItem2_f, DL.kItem_ok, DL.r_item, DL.r_yes, DL.lc_nil, DL.kLcL_some, DL.kLcL_none, DL.l_get0, DL.l_getS, DL.l_getN, DL.l_set0, DL.l_setS, DL.l_rep0, DL.l_repS, DL.l_app, DL.l_app0, DL.l_appN, DL.l_lenN, DL.l_lenS, DL.l_lenM, DL.l_lenA, DL.l_lenR, DL.l_cat0, DL.l_cat1, DL.setEn_c, DL.setEn_n, DL.b_dT, DL.b_dF, DL.b_nt, DL.b_nf, DL.b_nn, DL.b_at, DL.b_af, DL.b_ta, DL.b_fa, DL.b_ot, DL.b_of, DL.b_to, DL.b_fo, DL.b_tt, DL.b_ff, DL.b_tf, DL.b_ft, DL.b_nT, DL.b_nF, DL.b_iT, DL.b_iF, DL.kIf_not, DL.kAndT_not, DL.add_i, DL.sub_i, DL.mul_r, DL.mul_l, DL.mul_w, DL.fdiv_i, DL.mod_i, DL.pow_i, DL.shl_i, DL.shr_i, DL.and_i, DL.lt_i, DL.gt_i, DL.le_i, DL.ge_i, DL.eq_i, DL.eq_s, DL.eq_b, DL.ne_i, DL.ne_s, DL.ne_b, DL.is_non, DL.isnt_non, DL.iN_n, DL.iN_b, DL.iN_i, DL.iN_s, DL.iN_t, DL.iN_l, DL.len_l, DL.len_t, DL.len_s, DL.int_i, DL.int_b, DL.abs_i, DL.tup_l, DL.tup_t, DL.lst_l, DL.lst_t, DL.max_i, DL.min_i, DL.all_b, DL.any_b, DL.isi_bb, DL.isi_bi, DL.isi_bs, DL.isi_bn, DL.isi_bt, DL.isi_bl, DL.isi_ib, DL.isi_ii, DL.isi_is, DL.isi_in, DL.isi_it, DL.isi_il, DL.isi_sb, DL.isi_si, DL.isi_ss, DL.isi_sn, DL.isi_st, DL.isi_sl, DL.isi_tb, DL.isi_ti, DL.isi_ts, DL.isi_tn, DL.isi_tt, DL.isi_tl, DL.isi_lb, DL.isi_li, DL.isi_ls, DL.isi_ln, DL.isi_lt, DL.isi_ll, DL.tyD_s, DL.tyD_t, DL.tyD_l, DL.tyD_i, DL.kIx_s, DL.ix_l, DL.ix_t, DL.at_0, DL.at_1, DL.at_2, DL.at_3, DL.at_4, DL.ixN_lt, DL.app_F, DL.ext_F, DL.add_l, DL.add_t, DL.sl_l, DL.sl_t] $l)
theorem Many.lo {n : Int} {b : Bool} (M : Many n b) : ∀ x ∈ partsM n, Lo x := fun x hx => by
  have h := M.small
  simp only [Bool.and_eq_true, List.all_eq_true] at h
  exact strOk_lo.mp (h.2.1 x hx)
theorem Many.free {n : Int} {b : Bool} (M : Many n b) : ∀ x ∈ partsM n, 59 ∉ x.cps.toList := fun x hx hm => by
  have h := M.small
  simp only [Bool.and_eq_true, List.all_eq_true] at h
  have z := h.2.2 x hx
  rw [← Array.all_toList, List.all_eq_true] at z
  exact absurd rfl (of_decide_eq_true (z 59 hm))
theorem Many.sum {n : Int} {b : Bool} (M : Many n b) : ((partsM n).map (·.length)).sum + (partsM n).length * 3 ≤ 16777214 := by
  have h := M.small
  simp only [Bool.and_eq_true, decide_eq_true_eq] at h
  exact h.1
theorem semi_len : semi.length = 3 := by decide +kernel
theorem Many.join {n : Int} {b : Bool} (M : Many n b) : joinF (.str " ; ") [.list (.str "pick a b c d e f" :: (partsM n).tail.map PyData.str)] = some (.fz (textM n)) := by
  have z := M.sum
  exact joinF_ok (a := semi) (xs := partsM n) (by rw [semi_len]; omega) (strOk_lo.mp (by decide +kernel)) M.lo
theorem Many.small2 {n : Int} {b : Bool} (M : Many n b) : (partsM n).tail.length ≤ 6000000 := by
  have z := M.sum
  have : (partsM n).length = (partsM n).tail.length + 1 := rfl
  omega
theorem Many.run {n : Int} {b : Bool} (M : Many n b) : f__law_many [.int n] = .ok (.fz (.tuple [textM n, .tuple (rowsM n)])) .none := by
  have h1 := bits6_ok
  have h2 := sortedF_is M.sort
  have h3 := M.loop (.fz (.int n)) .no
  have h4 := M.words (.fz (.int n)) (.fz (.tuple sixN)) (.fz (.list (rowsM n))) (.fz (lastM n))
  have h5 := M.join
  have h6 := M.small2
  unfold sixN at h3 h4
  simp_arith [seval, f__law_many, r_run, g__law_many, h1, h2, h3, h4, h5]
theorem Many.saying {n : Int} {b : Bool} (M : Many n b) : f_saying_in [textM n] = .ok (.fz (if b then sayM n else .none)) .none := by
  have h1 : splitF (textM n) [.str " ; "] = some (.ow (.list ((partsM n).map PyData.str))) := splitF_semi (by simp [partsM]) M.free M.sum M.lo
  have h2 := M.owns (.fz (textM n)) (.ow (.list ((partsM n).map PyData.str)))
  have h3 := M.clauses (.fz (textM n)) (.ow (.list ((partsM n).map PyData.str))) (.fz (.tuple []))
  have h4 : removeprefixF (.str "pick a b c d e f") [.str "pick "] = some (.fz (.str "a b c d e f")) := by kernel_rfl
  have h5 : f_names_of_text [.str "a b c d e f"] = .ok (.fz (.tuple sixN)) .none := by kernel_rfl
  have h6 : atI ((partsM n).map PyData.str) 0 = some (.str "pick a b c d e f") := at_0 _ _
  have h7 : f_is_a_saying [.tuple [.tuple sixN, .tuple [], .tuple (rowsM n)]] = .ok (.fz (.bool b)) .none := M.good
  have h8 : tyD (textM n) = some "str" := rfl
  have h9 : f_words_of [.tuple sixN] = .ok (.fz (.str "a b c d e f")) .none := by kernel_rfl
  have h10 := M.join
  have h11 := M.show_
  have h12 : addD (.str "pick ") (.str "a b c d e f") = some (.fz (.str "pick a b c d e f")) := by kernel_rfl
  have h13 := M.small2
  have h14 : f_show_saying [.tuple [.tuple sixN, .tuple [], .tuple (rowsM n)]] = .ok (.fz (textM n)) .none := by
    simp_arith [seval, f_show_saying, r_run, g_show_saying, h9, h10, h11, h12]
  have h15 : eqD (textM n) (textM n) = some (.fz (.bool true)) := by
    unfold textM
    rw [eq_s, decide_eq_true rfl]
  cases b with
  | true => simp_arith [seval, f_saying_in, r_run, g_saying_in, h1, h2, h3, h4, h5, h6, h7, h8, h14, h15]; rfl
  | false => simp_arith [seval, f_saying_in, r_run, g_saying_in, h1, h2, h3, h4, h5, h6, h7, h8, h14, h15]
theorem Many.read {n : Int} {b : Bool} (M : Many n b) : f__law_read [.int 0, textM n] = .ok (if b then .ow (.list [sayM n]) else .fz (.tuple [.bool true, textM n])) .none := by
  have h1 := M.saying
  have h2 : isD1 "str" (textM n) = true := rfl
  have h3 : f_anew 8 [textM n] = .ok (.fz (textM n)) .none := by
    unfold textM
    simp_arith [seval, f_anew, r_run, g_anew]
  have h4 : isNone (sayM n) = false := rfl
  cases b with
  | true =>
    have h1 : f_saying_in [textM n] = .ok (.fz (sayM n)) .none := h1
    simp_arith [seval, f__law_read, f_read_saying, r_run, g__law_read, g_read_saying, h1, h2, h4]
  | false =>
    have h1 : f_saying_in [textM n] = .ok (.fz .none) .none := h1
    simp_arith [seval, f__law_read, f_read_saying, r_run, g__law_read, g_read_saying, h1, h2, h3]
    rfl
end KH
end
section
set_option maxRecDepth 100000
set_option maxHeartbeats 4000000
namespace KH
open PySem PySem.Spec L2 DL
open PyProof.Rows hiding St
local macro_rules | `(tactic| simp_arith [$ls,*]) => `(tactic| simp (disch := first | (refine id ?_; with_unfolding_all rfl) | assumption | omega | (simp only [DL.l_lenS, DL.l_lenN, DL.l_lenM, DL.l_lenA]; omega)) only [$ls,*, DL.kGet_fz, DL.kGet_ow, DL.kGet_io, DL.get_v, DL.get_s, DL.r_name, DL.kName_fz, DL.kName_ow, DL.r_slot, DL.kSlot_fz, DL.kSlot_ow, DL.kSlot_io, DL.r_move, DL.kMove_fz, DL.kMove_ow, DL.r_pure, DL.r_F, DL.kF_fz, DL.kF_ow, DL.kF_ex, DL.r_O, DL.kO_ok, DL.kO_ex, DL.r_B, DL.kB_ok, DL.kB_ex, DL.kFin_some, DL.kB3_some, DL.kB2_ok, DL.kB2_ex, DL.kB1_ok, DL.kB1_ex, DL.r_bin, DL.r_test, DL.kTest_ok, DL.kTest_ex, DL.r_not, DL.kNot_ok, DL.kNot_ex, DL.r_and, DL.kAnd_t, DL.kAnd_f, DL.kAnd_ex, DL.r_or, DL.kOr_t, DL.kOr_f, DL.kOr_ex, DL.r_andT, DL.kAndT_t, DL.kAndT_f, DL.kAndT_ex, DL.r_orT, DL.kOrT_t, DL.kOrT_f, DL.kOrT_ex, DL.r_notT, DL.kNotT_ok, DL.kNotT_ex, DL.r_if, DL.r_lif, DL.kIf_t, DL.kIf_f, DL.kIf_ex, DL.kC2_ok, DL.kC2_ex, DL.kC1_ok, DL.kC1_ex, DL.r_cons, DL.r_consP, DL.r_aoCons, DL.r_aoNil, DL.r_aNil, DL.r_pNil, DL.r_tup, DL.kTup_ok, DL.kTup_ex, DL.r_lst, DL.kLst_ok, DL.kLst_ex, DL.r_rep, DL.kRep_ok, DL.kGA_some, DL.getAll_nil, DL.getAll_cons, DL.kCB2_some, DL.kCB_ok, DL.kCB_ex, DL.r_callB, DL.kMp_some, DL.ca_nil, DL.ca_none, DL.ca_some, DL.kCA_ow, DL.kCA_io, DL.ca_io, DL.ios_none, DL.ios_some, DL.kIos_s, DL.put_none, DL.put_some, DL.kPut_ow, DL.kPut_io, DL.kCall3_ok, DL.kCall3_ex, DL.kCall2_some, DL.kCall_ok, DL.kCall_ex, DL.r_call, DL.kCallK2_ok, DL.kCallK2_ex, DL.kCallK1_len, DL.kCallK_ok, DL.kCallK_ex, DL.r_callK, DL.perm_nil, DL.perm_cons, DL.kPc_some, DL.init_nil, DL.init_none, DL.init_io, DL.init_some, DL.out_none, DL.out_some, DL.kOE_io, DL.kOut_some, DL.kOutX_some, DL.kRun_nx, DL.kRun_rt, DL.kRun_ex, DL.r_run, DL.r_lnil, DL.r_seq, DL.kSeq_nx, DL.kSeq_rt, DL.kSeq_bk, DL.kSeq_ct, DL.kSeq_ex, DL.kSeq_bad, DL.r_drop, DL.kDrop_ok, DL.kDrop_ex, DL.r_ret, DL.kRet_ok, DL.kRet_ex, DL.r_set, DL.kSet2_some, DL.kSet_ok, DL.kSet_ex, DL.kAsg2_ok, DL.kAsg_ok, DL.kAsg_ex, DL.r_asg, DL.kTn_some, DL.t_name, DL.t_nil, DL.kTc_ok, DL.t_cons, DL.t_tup, DL.kSub4_some, DL.kSub3_some, DL.kSub2_ok, DL.kSub_ok, DL.t_sub, DL.ownL_ow, DL.ownL_io, DL.r_par, DL.kPar_ok, DL.kPar_ex, DL.kAug2_some, DL.kAug1_ok, DL.kAug_fz, DL.r_aug, DL.kM5_some, DL.kM4_some, DL.kM3_ok, DL.kM3_ex, DL.kM2_some, DL.kM1_ok, DL.r_meth, DL.kR3_some, DL.kR2_ok, DL.kR2_ex, DL.kR1b_some, DL.kR1_ok, DL.kR1_ex, DL.r_rd, DL.kIsi2_some, DL.kIsi_ok, DL.r_isi, DL.r_part, DL.kPart_ok, DL.kSl4_some, DL.kSl3_ok, DL.kSl2_ok, DL.kSl1_ok, DL.kSl1_ex, DL.r_sl, DL.r_neg, DL.kNeg_ok, DL.kCh4_some, DL.kCh4b_some, DL.kCh3_ok, DL.kCh2c_f, DL.kCh2c_t, DL.kCh2b_some, DL.kCh2_ok, DL.kCh1_ok, DL.r_chain, DL.r_raise, DL.kRaise_ok, DL.kTry3_nx, DL.kTry3_rt, DL.kTry_ok, DL.kTry_in, DL.r_try, DL.noXc_nil, DL.noXc_fz, DL.noXc_ow, DL.noXc_io, DL.noXc_no, DL.r_xval, DL.kXval_xc, DL.r_xis, DL.kXis_xc, DL.kSq2_some, DL.kSq_ok, DL.kSq_ex, DL.r_seqI, DL.seqD_list, DL.seqD_tup, DL.seqD_str, DL.r_rg1, DL.kRg1_ok, DL.r_rg2, DL.kRg2_ok, DL.kZip2_some, DL.r_zip, DL.kZip_ok, DL.kEnum2_some, DL.r_enum, DL.kEnum_ok, DL.kTz2_some, DL.kTz_ok, DL.r_tz, DL.r_for, DL.kFor_ok, DL.kFor_ex, DL.r_turn, DL.kTurn_ok, DL.for_nil, DL.kLoop_nx, DL.kLoop_ct, DL.kLoop_bk, DL.kLoop_rt, DL.kLoop_ex, DL.kLc2_ok, DL.kLc_ok, DL.kLc_ex, DL.r_lc, DL.fix_nil, DL.fix_cons, DL.kFx_none, DL.kFx_fz, DL.kFx_no, DL.kFx_ow, DL.kFx_io, DL.kItem3_ok, DL.kItem2_t, DL.kItem2_f, DL.kItem_ok, DL.r_item, DL.r_yes, DL.lc_nil, DL.kLcL_some, DL.kLcL_none, DL.l_get0, DL.l_getS, DL.l_getN, DL.l_set0, DL.l_setS, DL.l_rep0, DL.l_repS, DL.l_app, DL.l_app0, DL.l_appN, DL.l_lenN, DL.l_lenS, DL.l_lenM, DL.l_lenA, DL.l_lenR, DL.l_cat0, DL.l_cat1, DL.setEn_c, DL.setEn_n, DL.b_dT, DL.b_dF, DL.b_nt, DL.b_nf, DL.b_nn, DL.b_at, DL.b_af, DL.b_ta, DL.b_fa, DL.b_ot, DL.b_of, DL.b_to, DL.b_fo, DL.b_tt, DL.b_ff, DL.b_tf, DL.b_ft, DL.b_nT, DL.b_nF, DL.b_iT, DL.b_iF, DL.kIf_not, DL.kAndT_not, DL.add_i, DL.sub_i, DL.mul_r, DL.mul_l, DL.mul_w, DL.fdiv_i, DL.mod_i, DL.pow_i, DL.shl_i, DL.shr_i, DL.and_i, DL.lt_i, DL.gt_i, DL.le_i, DL.ge_i, DL.eq_i, DL.eq_s, DL.eq_b, DL.ne_i, DL.ne_s, DL.ne_b, DL.is_non, DL.isnt_non, DL.iN_n, DL.iN_b, DL.iN_i, DL.iN_s, DL.iN_t, DL.iN_l, DL.len_l, DL.len_t, DL.len_s, DL.int_i, DL.int_b, DL.abs_i, DL.tup_l, DL.tup_t, DL.lst_l, DL.lst_t, DL.max_i, DL.min_i, DL.all_b, DL.any_b, DL.isi_bb, DL.isi_bi, DL.isi_bs, DL.isi_bn, DL.isi_bt, DL.isi_bl, DL.isi_ib, DL.isi_ii, DL.isi_is, DL.isi_in, DL.isi_it, DL.isi_il, DL.isi_sb, DL.isi_si, DL.isi_ss, DL.isi_sn, DL.isi_st, DL.isi_sl, DL.isi_tb, DL.isi_ti, DL.isi_ts, DL.isi_tn, DL.isi_tt, DL.isi_tl, DL.isi_lb, DL.isi_li, DL.isi_ls, DL.isi_ln, DL.isi_lt, DL.isi_ll, DL.tyD_s, DL.tyD_t, DL.tyD_l, DL.tyD_i, DL.kIx_s, DL.ix_l, DL.ix_t, DL.at_0, DL.at_1, DL.at_2, DL.at_3, DL.at_4, DL.ixN_lt, DL.app_F, DL.ext_F, DL.add_l, DL.add_t, DL.sl_l, DL.sl_t])
local macro_rules | `(tactic| simp_arith [$ls,*] $l:location) => `(tactic| simp (disch := first | (refine id ?_; with_unfolding_all rfl) | assumption | omega | (simp only [DL.l_lenS, DL.l_lenN, DL.l_lenM, DL.l_lenA]; omega)) only [$ls,*, DL.kGet_fz, DL.kGet_ow, DL.kGet_io, DL.get_v, DL.get_s, DL.r_name, DL.kName_fz, DL.kName_ow, DL.r_slot, DL.kSlot_fz, DL.kSlot_ow, DL.kSlot_io, DL.r_move, DL.kMove_fz, DL.kMove_ow, DL.r_pure, DL.r_F, DL.kF_fz, DL.kF_ow, DL.kF_ex, DL.r_O, DL.kO_ok, DL.kO_ex, DL.r_B, DL.kB_ok, DL.kB_ex, DL.kFin_some, DL.kB3_some, DL.kB2_ok, DL.kB2_ex, DL.kB1_ok, DL.kB1_ex, DL.r_bin, DL.r_test, DL.kTest_ok, DL.kTest_ex, DL.r_not, DL.kNot_ok, DL.kNot_ex, DL.r_and, DL.kAnd_t, DL.kAnd_f, DL.kAnd_ex, DL.r_or, DL.kOr_t, DL.kOr_f, DL.kOr_ex, DL.r_andT, DL.kAndT_t, DL.kAndT_f, DL.kAndT_ex, DL.r_orT, DL.kOrT_t, DL.kOrT_f, DL.kOrT_ex, DL.r_notT, DL.kNotT_ok, DL.kNotT_ex, DL.r_if, DL.r_lif, DL.kIf_t, DL.kIf_f, DL.kIf_ex, DL.kC2_ok, DL.kC2_ex, DL.kC1_ok, DL.kC1_ex, DL.r_cons, DL.r_consP, DL.r_aoCons, DL.r_aoNil, DL.r_aNil, DL.r_pNil, DL.r_tup, DL.kTup_ok, DL.kTup_ex, DL.r_lst, DL.kLst_ok, DL.kLst_ex, DL.r_rep, DL.kRep_ok, DL.kGA_some, DL.getAll_nil, DL.getAll_cons, DL.kCB2_some, DL.kCB_ok, DL.kCB_ex, DL.r_callB, DL.kMp_some, DL.ca_nil, DL.ca_none, DL.ca_some, DL.kCA_ow, DL.kCA_io, DL.ca_io, DL.ios_none, DL.ios_some, DL.kIos_s, DL.put_none, DL.put_some, DL.kPut_ow, DL.kPut_io, DL.kCall3_ok, DL.kCall3_ex, DL.kCall2_some, DL.kCall_ok, DL.kCall_ex, DL.r_call, DL.kCallK2_ok, DL.kCallK2_ex, DL.kCallK1_len, DL.kCallK_ok, DL.kCallK_ex, DL.r_callK, DL.perm_nil, DL.perm_cons, DL.kPc_some, DL.init_nil, DL.init_none, DL.init_io, DL.init_some, DL.out_none, DL.out_some, DL.kOE_io, DL.kOut_some, DL.kOutX_some, DL.kRun_nx, DL.kRun_rt, DL.kRun_ex, DL.r_run, DL.r_lnil, DL.r_seq, DL.kSeq_nx, DL.kSeq_rt, DL.kSeq_bk, DL.kSeq_ct, DL.kSeq_ex, DL.kSeq_bad, DL.r_drop, DL.kDrop_ok, DL.kDrop_ex, DL.r_ret, DL.kRet_ok, DL.kRet_ex, DL.r_set, DL.kSet2_some, DL.kSet_ok, DL.kSet_ex, DL.kAsg2_ok, DL.kAsg_ok, DL.kAsg_ex, DL.r_asg, DL.kTn_some, DL.t_name, DL.t_nil, DL.kTc_ok, DL.t_cons, DL.t_tup, DL.kSub4_some, DL.kSub3_some, DL.kSub2_ok, DL.kSub_ok, DL.t_sub, DL.ownL_ow, DL.ownL_io, DL.r_par, DL.kPar_ok, DL.kPar_ex, DL.kAug2_some, DL.kAug1_ok, DL.kAug_fz, DL.r_aug, DL.kM5_some, DL.kM4_some, DL.kM3_ok, DL.kM3_ex, DL.kM2_some, DL.kM1_ok, DL.r_meth, DL.kR3_some, DL.kR2_ok, DL.kR2_ex, DL.kR1b_some, DL.kR1_ok, DL.kR1_ex, DL.r_rd, DL.kIsi2_some, DL.kIsi_ok, DL.r_isi, DL.r_part, DL.kPart_ok, DL.kSl4_some, DL.kSl3_ok, DL.kSl2_ok, DL.kSl1_ok, DL.kSl1_ex, DL.r_sl, DL.r_neg, DL.kNeg_ok, DL.kCh4_some, DL.kCh4b_some, DL.kCh3_ok, DL.kCh2c_f, DL.kCh2c_t, DL.kCh2b_some, DL.kCh2_ok, DL.kCh1_ok, DL.r_chain, DL.r_raise, DL.kRaise_ok, DL.kTry3_nx, DL.kTry3_rt, DL.kTry_ok, DL.kTry_in, DL.r_try, DL.noXc_nil, DL.noXc_fz, DL.noXc_ow, DL.noXc_io, DL.noXc_no, DL.r_xval, DL.kXval_xc, DL.r_xis, DL.kXis_xc, DL.kSq2_some, DL.kSq_ok, DL.kSq_ex, DL.r_seqI, DL.seqD_list, DL.seqD_tup, DL.seqD_str, DL.r_rg1, DL.kRg1_ok, DL.r_rg2, DL.kRg2_ok, DL.kZip2_some, DL.r_zip, DL.kZip_ok, DL.kEnum2_some, DL.r_enum, DL.kEnum_ok, DL.kTz2_some, DL.kTz_ok, DL.r_tz, DL.r_for, DL.kFor_ok, DL.kFor_ex, DL.r_turn, DL.kTurn_ok, DL.for_nil, DL.kLoop_nx, DL.kLoop_ct, DL.kLoop_bk, DL.kLoop_rt, DL.kLoop_ex, DL.kLc2_ok, DL.kLc_ok, DL.kLc_ex, DL.r_lc, DL.fix_nil, DL.fix_cons, DL.kFx_none, DL.kFx_fz, DL.kFx_no, DL.kFx_ow, DL.kFx_io, DL.kItem3_ok, DL.kItem2_t, DL.kItem2_f, DL.kItem_ok, DL.r_item, DL.r_yes, DL.lc_nil, DL.kLcL_some, DL.kLcL_none, DL.l_get0, DL.l_getS, DL.l_getN, DL.l_set0, DL.l_setS, DL.l_rep0, DL.l_repS, DL.l_app, DL.l_app0, DL.l_appN, DL.l_lenN, DL.l_lenS, DL.l_lenM, DL.l_lenA, DL.l_lenR, DL.l_cat0, DL.l_cat1, DL.setEn_c, DL.setEn_n, DL.b_dT, DL.b_dF, DL.b_nt, DL.b_nf, DL.b_nn, DL.b_at, DL.b_af, DL.b_ta, DL.b_fa, DL.b_ot, DL.b_of, DL.b_to, DL.b_fo, DL.b_tt, DL.b_ff, DL.b_tf, DL.b_ft, DL.b_nT, DL.b_nF, DL.b_iT, DL.b_iF, DL.kIf_not, DL.kAndT_not, DL.add_i, DL.sub_i, DL.mul_r, DL.mul_l, DL.mul_w, DL.fdiv_i, DL.mod_i, DL.pow_i, DL.shl_i, DL.shr_i, DL.and_i, DL.lt_i, DL.gt_i, DL.le_i, DL.ge_i, DL.eq_i, DL.eq_s, DL.eq_b, DL.ne_i, DL.ne_s, DL.ne_b, DL.is_non, DL.isnt_non, DL.iN_n, DL.iN_b, DL.iN_i, DL.iN_s, DL.iN_t, DL.iN_l, DL.len_l, DL.len_t, DL.len_s, DL.int_i, DL.int_b, DL.abs_i, DL.tup_l, DL.tup_t, DL.lst_l, DL.lst_t, DL.max_i, DL.min_i, DL.all_b, DL.any_b, DL.isi_bb, DL.isi_bi, DL.isi_bs, DL.isi_bn, DL.isi_bt, DL.isi_bl, DL.isi_ib, DL.isi_ii, DL.isi_is, DL.isi_in, DL.isi_it, DL.isi_il, DL.isi_sb, DL.isi_si, DL.isi_ss, DL.isi_sn, DL.isi_st, DL.isi_sl, DL.isi_tb, DL.isi_ti, DL.isi_ts, DL.isi_tn, DL.isi_tt, DL.isi_tl, DL.isi_lb, DL.isi_li, DL.isi_ls, DL.isi_ln, DL.isi_lt, DL.isi_ll, DL.tyD_s, DL.tyD_t, DL.tyD_l, DL.tyD_i, DL.kIx_s, DL.ix_l, DL.ix_t, DL.at_0, DL.at_1, DL.at_2, DL.at_3, DL.at_4, DL.ixN_lt, DL.app_F, DL.ext_F, DL.add_l, DL.add_t, DL.sl_l, DL.sl_t] $l)
theorem ne_s_self (x : Str) : neD (.str x) (.str x) = some (.fz (.bool false)) := by rw [ne_s, decide_eq_true rfl]; rfl
theorem any2 {n : Nat} {d : D} (h : Sd n d) (hn : n ≤ 900000) : ∃ r d', f__law_any [d, .int 2] = .ok (.fz (.int r)) d' ∧ (r = 0 ∨ r = 1) ∧ Sd (n + 1) d' := by
  obtain ⟨r, d', h1, h2, h3, h4⟩ := any_ok h hn (by decide : (2 : Int) ≤ 2) (by decide)
  exact ⟨r, d', h1, by omega, h4⟩
/-! ### the loops' turns -/
theorem turn1 {n : Nat} {sd t s x2 x3 x4 x5 x6 x7 x8 x9 : D} (hs : Sd n sd) (hn : n ≤ 900000) (ht : (rdB 0 t && rdB 1 t) = true) {y3 : Ent} (r : List Ent) :
    ∃ sd', Sd (n + 1) sd' ∧ turn (tName 3) b_law_1 t (.fz s :: .ow sd :: .fz x2 :: y3 :: r) = .ok .nx (.fz s :: .ow sd' :: .fz x2 :: .fz t :: r) := by
  obtain ⟨k, sd', h1, h2, h3⟩ := any2 hs hn
  rw [Bool.and_eq_true] at ht
  obtain ⟨⟨o, h4⟩, h5⟩ : (∃ o, f__law_read [.int k, t] = .ok (.fz (.tuple [.bool true, t])) o) ∧ neD (.tuple [.bool true, t]) (.tuple [.bool true, t]) = some (.fz (.bool false)) := by
    rcases h2 with rfl | rfl
    · exact rdB_ok ht.1
    · exact rdB_ok ht.2
  refine ⟨sd', h3, ?_⟩
  simp_arith [seval, b_law_1, h1, h4, h5]
theorem turn2 {n : Nat} {sd t w s x2 : D} (hs : Sd n sd) (hn : n ≤ 900000) (ht : (rdR 0 t w && rdR 1 t w) = true) {y3 y4 : Ent} (r : List Ent) :
    ∃ sd', Sd (n + 1) sd' ∧ turn (tTup 2 (DL.tCons (tName 3) (DL.tCons (tName 4) DL.tNil))) b_law_2 (.tuple [t, w]) (.fz s :: .ow sd :: .fz x2 :: y3 :: y4 :: r) = .ok .nx (.fz s :: .ow sd' :: .fz x2 :: .fz t :: .fz w :: r) := by
  obtain ⟨k, sd', h1, h2, h3⟩ := any2 hs hn
  rw [Bool.and_eq_true] at ht
  obtain ⟨⟨x, o, h4, h6⟩, h5⟩ : (∃ x o, f__law_read [.int k, t] = .ok x o ∧ (x = .fz (.list [w]) ∨ x = .ow (.list [w]))) ∧ reprF [.list [w]] = some (.fz (.str (PyData.shown (.list [w])))) := by
    rcases h2 with rfl | rfl
    · exact rdR_ok ht.1
    · exact rdR_ok ht.2
  refine ⟨sd', h3, ?_⟩
  have h7 := ne_s_self (PyData.shown (.list [w]))
  rcases h6 with rfl | rfl
  · simp_arith [seval, b_law_2, h1, h4, h5, h7]
  · simp_arith [seval, b_law_2, h1, h4, h5, h7]
theorem goodT {n : Int} {b : Bool} (M : Many n b) : neD (.list [.tuple [.tuple sixN, .tuple [], .tuple (rowsM n)]]) (.list [.tuple [.tuple sixN, .tuple [], .tuple (rowsM n)]]) = some (.fz (.bool false)) := ne_self M.depth
theorem goodX {n : Int} {b : Bool} (M : Many n b) : neD (.tuple [.bool true, textM n]) (.tuple [.bool true, textM n]) = some (.fz (.bool false)) := ne_self (by
  have z := M.sum
  have h : okS (Txt.join semi (partsM n)) = true := okS_join (by rw [semi_len]; omega) (strOk_lo.mp (by decide +kernel)) M.lo
  unfold okS at h
  rw [Bool.and_eq_true] at h
  unfold goodE
  rw [Bool.and_eq_true]
  refine ⟨rfl, ?_⟩
  show (true && (PyData.strOk (Txt.join semi (partsM n)) && true)) = true
  rw [h.2]
  rfl)
theorem turn3a {n : Int} (M : Many n true) (hn : n < 41) {s sd x2 y3 y4 y5 y6 : Ent} {r : List Ent} :
    turn (tName 5) b_law_3 (.int n) (s :: sd :: x2 :: y3 :: y4 :: y5 :: y6 :: r) = .ok .nx (s :: sd :: x2 :: .fz (textM n) :: y4 :: .fz (.int n) :: .fz (.tuple (rowsM n)) :: r) := by
  have h1 := M.run
  have h2 : f__law_read [.int 0, textM n] = .ok (.ow (.list [sayM n])) .none := M.read
  have h3 := goodT M
  unfold sayM at h2
  unfold sixN at h2 h3
  simp_arith [seval, b_law_3, h1, h2, h3, hn]
theorem turn3b {n : Int} (M : Many n false) (hn : ¬ n < 41) {s sd x2 y3 y4 y5 y6 : Ent} {r : List Ent} :
    turn (tName 5) b_law_3 (.int n) (s :: sd :: x2 :: y3 :: y4 :: y5 :: y6 :: r) = .ok .nx (s :: sd :: x2 :: .fz (textM n) :: y4 :: .fz (.int n) :: .fz (.tuple (rowsM n)) :: r) := by
  have h1 := M.run
  have h2 : f__law_read [.int 0, textM n] = .ok (.fz (.tuple [.bool true, textM n])) .none := M.read
  have h3 := goodX M
  simp_arith [seval, b_law_3, h1, h2, h3, hn]
theorem turn4 {n : Nat} {sd t s x2 : D} (hs : Sd n sd) (hn : n ≤ 900000) (ht : (rdB 2 t && rdB 3 t) = true) {y3 : Ent} (r : List Ent) :
    ∃ sd', Sd (n + 1) sd' ∧ turn (tName 3) b_law_4 t (.fz s :: .ow sd :: .fz x2 :: y3 :: r) = .ok .nx (.fz s :: .ow sd' :: .fz x2 :: .fz t :: r) := by
  obtain ⟨k, sd', h1, h2, h3⟩ := any2 hs hn
  rw [Bool.and_eq_true] at ht
  obtain ⟨⟨o, h4⟩, h5⟩ : (∃ o, f__law_read [.int (2 + k), t] = .ok (.fz (.tuple [.bool true, t])) o) ∧ neD (.tuple [.bool true, t]) (.tuple [.bool true, t]) = some (.fz (.bool false)) := by
    rcases h2 with rfl | rfl
    · exact rdB_ok ht.1
    · exact rdB_ok ht.2
  refine ⟨sd', h3, ?_⟩
  simp_arith [seval, b_law_4, h1, h4, h5]
theorem turn5 {n : Nat} {sd c s x2 : D} (hs : Sd n sd) (hn : n ≤ 900000) (hc : c ∈ clauseL) {y3 y4 y5 y6 y7 y8 y9 : Ent} (r : List Ent) :
    ∃ sd', Sd (n + 1) sd' ∧ turn (tName 9) b_law_5 c (.fz s :: .ow sd :: .fz x2 :: y3 :: y4 :: y5 :: y6 :: y7 :: y8 :: y9 :: r) = .ok .nx (.fz s :: .ow sd' :: .fz x2 :: y3 :: y4 :: y5 :: y6 :: y7 :: y8 :: .fz c :: r) := by
  obtain ⟨k, sd', h1, h2, h3⟩ := any2 hs hn
  have ht := List.all_eq_true.mp clause_ok c hc
  rw [Bool.and_eq_true, Bool.and_eq_true] at ht
  have h0 : f__law_word [c] = .ok (.fz (wordOf c)) .none := by
    have z := ht.1
    unfold wordOf
    split at z
    · rename_i x e
      rw [e]
    · cases z
  obtain ⟨⟨x, o, h4, h6⟩, h5⟩ : (∃ x o, f__law_read [.int (2 + k), wordOf c] = .ok x o ∧ (x = .fz (.list [c]) ∨ x = .ow (.list [c]))) ∧ reprF [.list [c]] = some (.fz (.str (PyData.shown (.list [c])))) := by
    rcases h2 with rfl | rfl
    · exact rdR_ok ht.2.1
    · exact rdR_ok ht.2.2
  refine ⟨sd', h3, ?_⟩
  have h7 := ne_s_self (PyData.shown (.list [c]))
  rcases h6 with rfl | rfl
  · simp_arith [seval, b_law_5, h0, h1, h4, h5, h7]
  · simp_arith [seval, b_law_5, h0, h1, h4, h5, h7]
/-- a loop whose turns keep the form of the slots -/
theorem for_keep {h : D → M Unit} {body : M Fl} (P : Nat → En → Prop) (ds : List D) (i : Nat) (env : En) (hs : ∀ d ∈ ds, ∀ j env, j < i + ds.length → P j env → ∃ env2, turn h body d env = .ok .nx env2 ∧ P (j + 1) env2) (p : P i env) : ∃ env', forL h body ds env = .ok .nx env' ∧ P (i + ds.length) env' := by
  induction ds generalizing i env with
  | nil => exact ⟨env, rfl, p⟩
  | cons d ds ih =>
    obtain ⟨e2, h1, h2⟩ := hs d List.mem_cons_self i env (by simp) p
    obtain ⟨e3, h3, h4⟩ := ih (i + 1) e2 (fun x hx j env hj => hs x (List.mem_cons_of_mem _ hx) j env (by simp only [List.length_cons]; omega)) h2
    exact ⟨e3, by rw [for_cons, h1, kLoop_nx, h3], by rw [List.length_cons, show i + (ds.length + 1) = i + 1 + ds.length by omega]; exact h4⟩
def oddL : List D := lstOf (f__law_odd_sayings [])
def fineL : List D := lstOf (f__law_fine_sayings [])
theorem odd_run : f__law_odd_sayings [] = .ok (.ow (.list oddL)) .none := by kernel_rfl
theorem fine_run : f__law_fine_sayings [] = .ok (.ow (.list fineL)) .none := by kernel_rfl
theorem odd_len : oddL.length ≤ 1000 := by decide +kernel
theorem fine_len : fineL.length ≤ 1000 := by decide +kernel
theorem fine_form : (fineL.all fun d => match d with | .tuple [_, _] => true | _ => false) = true := by decide +kernel
def wideL : List D := [.tuple [.str "aa", .bool true], .tuple [.str "abb", .bool false], .tuple [.str "abcc", .bool true], .tuple [.str "ad", .bool false], .tuple [.str "abe", .bool true], .tuple [.str "abcf", .bool false], .tuple [.str "ag", .bool true], .tuple [.str "abh", .bool false], .tuple [.str "abci", .bool true], .tuple [.str "aj", .bool false], .tuple [.str "abk", .bool true], .tuple [.str "abcl", .bool false], .tuple [.str "am", .bool true], .tuple [.str "abn", .bool false], .tuple [.str "abco", .bool true], .tuple [.str "ap", .bool false], .tuple [.str "abq", .bool true], .tuple [.str "abcr", .bool false], .tuple [.str "as", .bool true], .tuple [.str "abt", .bool false], .tuple [.str "abcu", .bool true], .tuple [.str "av", .bool false], .tuple [.str "abw", .bool true], .tuple [.str "abcx", .bool false], .tuple [.str "ay", .bool true], .tuple [.str "abz", .bool false]]
theorem wide_run (a b c d e f g h i j : Ent) : lcL (tName 11) yes e_law_1 [11] (ups 0 26) [] [a, b, c, d, e, f, g, h, i, j, .no, .no, .no] = .ok wideL [a, b, c, d, e, f, g, h, i, j, .no, .no, .no] := by kernel_rfl
def wideS : List D := [.tuple [.str "aa", .bool true], .tuple [.str "abb", .bool false], .tuple [.str "abcc", .bool true], .tuple [.str "abcf", .bool false], .tuple [.str "abci", .bool true], .tuple [.str "abcl", .bool false], .tuple [.str "abco", .bool true], .tuple [.str "abcr", .bool false], .tuple [.str "abcu", .bool true], .tuple [.str "abcx", .bool false], .tuple [.str "abe", .bool true], .tuple [.str "abh", .bool false], .tuple [.str "abk", .bool true], .tuple [.str "abn", .bool false], .tuple [.str "abq", .bool true], .tuple [.str "abt", .bool false], .tuple [.str "abw", .bool true], .tuple [.str "abz", .bool false], .tuple [.str "ad", .bool false], .tuple [.str "ag", .bool true], .tuple [.str "aj", .bool false], .tuple [.str "am", .bool true], .tuple [.str "ap", .bool false], .tuple [.str "as", .bool true], .tuple [.str "av", .bool false], .tuple [.str "ay", .bool true]]
theorem wide_sort : (sortable wideL && (permB wideL wideS && risB wideS)) = true := by decide +kernel
end KH
end
section
set_option maxRecDepth 100000
set_option maxHeartbeats 4000000
namespace KH
open PySem PySem.Spec L2 DL
open PyProof.Rows hiding St
local macro_rules | `(tactic| simp_arith [$ls,*]) => `(tactic| simp (disch := first | (refine id ?_; with_unfolding_all rfl) | assumption | omega | (simp only [DL.l_lenS, DL.l_lenN, DL.l_lenM, DL.l_lenA]; omega)) only [$ls,*, DL.kGet_fz, DL.kGet_ow, DL.kGet_io, DL.get_v, DL.get_s, DL.r_name, DL.kName_fz, DL.kName_ow, DL.r_slot, DL.kSlot_fz, DL.kSlot_ow, DL.kSlot_io, DL.r_move, DL.kMove_fz, DL.kMove_ow, DL.r_pure, DL.r_F, DL.kF_fz, DL.kF_ow, DL.kF_ex, DL.r_O, DL.kO_ok, DL.kO_ex, DL.r_B, DL.kB_ok, DL.kB_ex, DL.kFin_some, DL.kB3_some, DL.kB2_ok, DL.kB2_ex, DL.kB1_ok, DL.kB1_ex, DL.r_bin, DL.r_test, DL.kTest_ok, DL.kTest_ex, DL.r_not, DL.kNot_ok, DL.kNot_ex, DL.r_and, DL.kAnd_t, DL.kAnd_f, DL.kAnd_ex, DL.r_or, DL.kOr_t, DL.kOr_f, DL.kOr_ex, DL.r_andT, DL.kAndT_t, DL.kAndT_f, DL.kAndT_ex, DL.r_orT, DL.kOrT_t, DL.kOrT_f, DL.kOrT_ex, DL.r_notT, DL.kNotT_ok, DL.kNotT_ex, DL.r_if, DL.r_lif, DL.kIf_t, DL.kIf_f, DL.kIf_ex, DL.kC2_ok, DL.kC2_ex, DL.kC1_ok, DL.kC1_ex, DL.r_cons, DL.r_consP, DL.r_aoCons, DL.r_aoNil, DL.r_aNil, DL.r_pNil, DL.r_tup, DL.kTup_ok, DL.kTup_ex, DL.r_lst, DL.kLst_ok, DL.kLst_ex, DL.r_rep, DL.kRep_ok, DL.kGA_some, DL.getAll_nil, DL.getAll_cons, DL.kCB2_some, DL.kCB_ok, DL.kCB_ex, DL.r_callB, DL.kMp_some, DL.ca_nil, DL.ca_none, DL.ca_some, DL.kCA_ow, DL.kCA_io, DL.ca_io, DL.ios_none, DL.ios_some, DL.kIos_s, DL.put_none, DL.put_some, DL.kPut_ow, DL.kPut_io, DL.kCall3_ok, DL.kCall3_ex, DL.kCall2_some, DL.kCall_ok, DL.kCall_ex, DL.r_call, DL.kCallK2_ok, DL.kCallK2_ex, DL.kCallK1_len, DL.kCallK_ok, DL.kCallK_ex, DL.r_callK, DL.perm_nil, DL.perm_cons, DL.kPc_some, DL.init_nil, DL.init_none, DL.init_io, DL.init_some, DL.out_none, DL.out_some, DL.kOE_io, DL.kOut_some, DL.kOutX_some, DL.kRun_nx, DL.kRun_rt, DL.kRun_ex, DL.r_run, DL.r_lnil, DL.r_seq, DL.kSeq_nx, DL.kSeq_rt, DL.kSeq_bk, DL.kSeq_ct, DL.kSeq_ex, DL.kSeq_bad, DL.r_drop, DL.kDrop_ok, DL.kDrop_ex, DL.r_ret, DL.kRet_ok, DL.kRet_ex, DL.r_set, DL.kSet2_some, DL.kSet_ok, DL.kSet_ex, DL.kAsg2_ok, DL.kAsg_ok, DL.kAsg_ex, DL.r_asg, DL.kTn_some, DL.t_name, DL.t_nil, DL.kTc_ok, DL.t_cons, DL.t_tup, DL.kSub4_some, DL.kSub3_some, DL.kSub2_ok, DL.kSub_ok, DL.t_sub, DL.ownL_ow, DL.ownL_io, DL.r_par, DL.kPar_ok, DL.kPar_ex, DL.kAug2_some, DL.kAug1_ok, DL.kAug_fz, DL.r_aug, DL.kM5_some, DL.kM4_some, DL.kM3_ok, DL.kM3_ex, DL.kM2_some, DL.kM1_ok, DL.r_meth, DL.kR3_some, DL.kR2_ok, DL.kR2_ex, DL.kR1b_some, DL.kR1_ok, DL.kR1_ex, DL.r_rd, DL.kIsi2_some, DL.kIsi_ok, DL.r_isi, DL.r_part, DL.kPart_ok, DL.kSl4_some, DL.kSl3_ok, DL.kSl2_ok, DL.kSl1_ok, DL.kSl1_ex, DL.r_sl, DL.r_neg, DL.kNeg_ok, DL.kCh4_some, DL.kCh4b_some, DL.kCh3_ok, DL.kCh2c_f, DL.kCh2c_t, DL.kCh2b_some, DL.kCh2_ok, DL.kCh1_ok, DL.r_chain, DL.r_raise, DL.kRaise_ok, DL.kTry3_nx, DL.kTry3_rt, DL.kTry_ok, DL.kTry_in, DL.r_try, DL.noXc_nil, DL.noXc_fz, DL.noXc_ow, DL.noXc_io, DL.noXc_no, DL.r_xval, DL.kXval_xc, DL.r_xis, DL.kXis_xc, DL.kSq2_some, DL.kSq_ok, DL.kSq_ex, DL.r_seqI, DL.seqD_list, DL.seqD_tup, DL.seqD_str, DL.r_rg1, DL.kRg1_ok, DL.r_rg2, DL.kRg2_ok, DL.kZip2_some, DL.r_zip, DL.kZip_ok, DL.kEnum2_some, DL.r_enum, DL.kEnum_ok, DL.kTz2_some, DL.kTz_ok, DL.r_tz, DL.r_for, DL.kFor_ok, DL.kFor_ex, DL.r_turn, DL.kTurn_ok, DL.for_nil, DL.kLoop_nx, DL.kLoop_ct, DL.kLoop_bk, DL.kLoop_rt, DL.kLoop_ex, DL.kLc2_ok, DL.kLc_ok, DL.kLc_ex, DL.r_lc, DL.fix_nil, DL.fix_cons, DL.kFx_none, DL.kFx_fz, DL.kFx_no, DL.kFx_ow, DL.kFx_io, DL.kItem3_ok, DL.kItem2_t, DL.kItem2_f, DL.kItem_ok, DL.r_item, DL.r_yes, DL.lc_nil, DL.kLcL_some, DL.kLcL_none, DL.l_get0, DL.l_getS, DL.l_getN, DL.l_set0, DL.l_setS, DL.l_rep0, DL.l_repS, DL.l_app, DL.l_app0, DL.l_appN, DL.l_lenN, DL.l_lenS, DL.l_lenM, DL.l_lenA, DL.l_lenR, DL.l_cat0, DL.l_cat1, DL.setEn_c, DL.setEn_n, DL.b_dT, DL.b_dF, DL.b_nt, DL.b_nf, DL.b_nn, DL.b_at, DL.b_af, DL.b_ta, DL.b_fa, DL.b_ot, DL.b_of, DL.b_to, DL.b_fo, DL.b_tt, DL.b_ff, DL.b_tf, DL.b_ft, DL.b_nT, DL.b_nF, DL.b_iT, DL.b_iF, DL.kIf_not, DL.kAndT_not, DL.add_i, DL.sub_i, DL.mul_r, DL.mul_l, DL.mul_w, DL.fdiv_i, DL.mod_i, DL.pow_i, DL.shl_i, DL.shr_i, DL.and_i, DL.lt_i, DL.gt_i, DL.le_i, DL.ge_i, DL.eq_i, DL.eq_s, DL.eq_b, DL.ne_i, DL.ne_s, DL.ne_b, DL.is_non, DL.isnt_non, DL.iN_n, DL.iN_b, DL.iN_i, DL.iN_s, DL.iN_t, DL.iN_l, DL.len_l, DL.len_t, DL.len_s, DL.int_i, DL.int_b, DL.abs_i, DL.tup_l, DL.tup_t, DL.lst_l, DL.lst_t, DL.max_i, DL.min_i, DL.all_b, DL.any_b, DL.isi_bb, DL.isi_bi, DL.isi_bs, DL.isi_bn, DL.isi_bt, DL.isi_bl, DL.isi_ib, DL.isi_ii, DL.isi_is, DL.isi_in, DL.isi_it, DL.isi_il, DL.isi_sb, DL.isi_si, DL.isi_ss, DL.isi_sn, DL.isi_st, DL.isi_sl, DL.isi_tb, DL.isi_ti, DL.isi_ts, DL.isi_tn, DL.isi_tt, DL.isi_tl, DL.isi_lb, DL.isi_li, DL.isi_ls, DL.isi_ln, DL.isi_lt, DL.isi_ll, DL.tyD_s, DL.tyD_t, DL.tyD_l, DL.tyD_i, DL.kIx_s, DL.ix_l, DL.ix_t, DL.at_0, DL.at_1, DL.at_2, DL.at_3, DL.at_4, DL.ixN_lt, DL.app_F, DL.ext_F, DL.add_l, DL.add_t, DL.sl_l, DL.sl_t])
local macro_rules | `(tactic| simp_arith [$ls,*] $l:location) => `(tactic| simp (disch := first | (refine id ?_; with_unfolding_all rfl) | assumption | omega | (simp only [DL.l_lenS, DL.l_lenN, DL.l_lenM, DL.l_lenA]; omega)) only [$ls,*, DL.kGet_fz, DL.kGet_ow, DL.kGet_io, DL.get_v, DL.get_s, DL.r_name, DL.kName_fz, DL.kName_ow, DL.r_slot, DL.kSlot_fz, DL.kSlot_ow, DL.kSlot_io, DL.r_move, DL.kMove_fz, DL.kMove_ow, DL.r_pure, DL.r_F, DL.kF_fz, DL.kF_ow, DL.kF_ex, DL.r_O, DL.kO_ok, DL.kO_ex, DL.r_B, DL.kB_ok, DL.kB_ex, DL.kFin_some, DL.kB3_some, DL.kB2_ok, DL.kB2_ex, DL.kB1_ok, DL.kB1_ex, DL.r_bin, DL.r_test, DL.kTest_ok, DL.kTest_ex, DL.r_not, DL.kNot_ok, DL.kNot_ex, DL.r_and, DL.kAnd_t, DL.kAnd_f, DL.kAnd_ex, DL.r_or, DL.kOr_t, DL.kOr_f, DL.kOr_ex, DL.r_andT, DL.kAndT_t, DL.kAndT_f, DL.kAndT_ex, DL.r_orT, DL.kOrT_t, DL.kOrT_f, DL.kOrT_ex, DL.r_notT, DL.kNotT_ok, DL.kNotT_ex, DL.r_if, DL.r_lif, DL.kIf_t, DL.kIf_f, DL.kIf_ex, DL.kC2_ok, DL.kC2_ex, DL.kC1_ok, DL.kC1_ex, DL.r_cons, DL.r_consP, DL.r_aoCons, DL.r_aoNil, DL.r_aNil, DL.r_pNil, DL.r_tup, DL.kTup_ok, DL.kTup_ex, DL.r_lst, DL.kLst_ok, DL.kLst_ex, DL.r_rep, DL.kRep_ok, DL.kGA_some, DL.getAll_nil, DL.getAll_cons, DL.kCB2_some, DL.kCB_ok, DL.kCB_ex, DL.r_callB, DL.kMp_some, DL.ca_nil, DL.ca_none, DL.ca_some, DL.kCA_ow, DL.kCA_io, DL.ca_io, DL.ios_none, DL.ios_some, DL.kIos_s, DL.put_none, DL.put_some, DL.kPut_ow, DL.kPut_io, DL.kCall3_ok, DL.kCall3_ex, DL.kCall2_some, DL.kCall_ok, DL.kCall_ex, DL.r_call, DL.kCallK2_ok, DL.kCallK2_ex, DL.kCallK1_len, DL.kCallK_ok, DL.kCallK_ex, DL.r_callK, DL.perm_nil, DL.perm_cons, DL.kPc_some, DL.init_nil, DL.init_none, DL.init_io, DL.init_some, DL.out_none, DL.out_some, DL.kOE_io, DL.kOut_some, DL.kOutX_some, DL.kRun_nx, DL.kRun_rt, DL.kRun_ex, DL.r_run, DL.r_lnil, DL.r_seq, DL.kSeq_nx, DL.kSeq_rt, DL.kSeq_bk, DL.kSeq_ct, DL.kSeq_ex, DL.kSeq_bad, DL.r_drop, DL.kDrop_ok, DL.kDrop_ex, DL.r_ret, DL.kRet_ok, DL.kRet_ex, DL.r_set, DL.kSet2_some, DL.kSet_ok, DL.kSet_ex, DL.kAsg2_ok, DL.kAsg_ok, DL.kAsg_ex, DL.r_asg, DL.kTn_some, DL.t_name, DL.t_nil, DL.kTc_ok, DL.t_cons, DL.t_tup, DL.kSub4_some, DL.kSub3_some, DL.kSub2_ok, DL.kSub_ok, DL.t_sub, DL.ownL_ow, DL.ownL_io, DL.r_par, DL.kPar_ok, DL.kPar_ex, DL.kAug2_some, DL.kAug1_ok, DL.kAug_fz, DL.r_aug, DL.kM5_some, DL.kM4_some, DL.kM3_ok, DL.kM3_ex, DL.kM2_some, DL.kM1_ok, DL.r_meth, DL.kR3_some, DL.kR2_ok, DL.kR2_ex, DL.kR1b_some, DL.kR1_ok, DL.kR1_ex, DL.r_rd, DL.kIsi2_some, DL.kIsi_ok, DL.r_isi, DL.r_part, DL.kPart_ok, DL.kSl4_some, DL.kSl3_ok, DL.kSl2_ok, DL.kSl1_ok, DL.kSl1_ex, DL.r_sl, DL.r_neg, DL.kNeg_ok, DL.kCh4_some, DL.kCh4b_some, DL.kCh3_ok, DL.kCh2c_f, DL.kCh2c_t, DL.kCh2b_some, DL.kCh2_ok, DL.kCh1_ok, DL.r_chain, DL.r_raise, DL.kRaise_ok, DL.kTry3_nx, DL.kTry3_rt, DL.kTry_ok, DL.kTry_in, DL.r_try, DL.noXc_nil, DL.noXc_fz, DL.noXc_ow, DL.noXc_io, DL.noXc_no, DL.r_xval, DL.kXval_xc, DL.r_xis, DL.kXis_xc, DL.kSq2_some, DL.kSq_ok, DL.kSq_ex, DL.r_seqI, DL.seqD_list, DL.seqD_tup, DL.seqD_str, DL.r_rg1, DL.kRg1_ok, DL.r_rg2, DL.kRg2_ok, DL.kZip2_some, DL.r_zip, DL.kZip_ok, DL.kEnum2_some, DL.r_enum, DL.kEnum_ok, DL.kTz2_some, DL.kTz_ok, DL.r_tz, DL.r_for, DL.kFor_ok, DL.kFor_ex, DL.r_turn, DL.kTurn_ok, DL.for_nil, DL.kLoop_nx, DL.kLoop_ct, DL.kLoop_bk, DL.kLoop_rt, DL.kLoop_ex, DL.kLc2_ok, DL.kLc_ok, DL.kLc_ex, DL.r_lc, DL.fix_nil, DL.fix_cons, DL.kFx_none, DL.kFx_fz, DL.kFx_no, DL.kFx_ow, DL.kFx_io, DL.kItem3_ok, DL.kItem2_t, DL.kItem2_f, DL.kItem_ok, DL.r_item, DL.r_yes, DL.lc_nil, DL.kLcL_some, DL.kLcL_none, DL.l_get0, DL.l_getS, DL.l_getN, DL.l_set0, DL.l_setS, DL.l_rep0, DL.l_repS, DL.l_app, DL.l_app0, DL.l_appN, DL.l_lenN, DL.l_lenS, DL.l_lenM, DL.l_lenA, DL.l_lenR, DL.l_cat0, DL.l_cat1, DL.setEn_c, DL.setEn_n, DL.b_dT, DL.b_dF, DL.b_nt, DL.b_nf, DL.b_nn, DL.b_at, DL.b_af, DL.b_ta, DL.b_fa, DL.b_ot, DL.b_of, DL.b_to, DL.b_fo, DL.b_tt, DL.b_ff, DL.b_tf, DL.b_ft, DL.b_nT, DL.b_nF, DL.b_iT, DL.b_iF, DL.kIf_not, DL.kAndT_not, DL.add_i, DL.sub_i, DL.mul_r, DL.mul_l, DL.mul_w, DL.fdiv_i, DL.mod_i, DL.pow_i, DL.shl_i, DL.shr_i, DL.and_i, DL.lt_i, DL.gt_i, DL.le_i, DL.ge_i, DL.eq_i, DL.eq_s, DL.eq_b, DL.ne_i, DL.ne_s, DL.ne_b, DL.is_non, DL.isnt_non, DL.iN_n, DL.iN_b, DL.iN_i, DL.iN_s, DL.iN_t, DL.iN_l, DL.len_l, DL.len_t, DL.len_s, DL.int_i, DL.int_b, DL.abs_i, DL.tup_l, DL.tup_t, DL.lst_l, DL.lst_t, DL.max_i, DL.min_i, DL.all_b, DL.any_b, DL.isi_bb, DL.isi_bi, DL.isi_bs, DL.isi_bn, DL.isi_bt, DL.isi_bl, DL.isi_ib, DL.isi_ii, DL.isi_is, DL.isi_in, DL.isi_it, DL.isi_il, DL.isi_sb, DL.isi_si, DL.isi_ss, DL.isi_sn, DL.isi_st, DL.isi_sl, DL.isi_tb, DL.isi_ti, DL.isi_ts, DL.isi_tn, DL.isi_tt, DL.isi_tl, DL.isi_lb, DL.isi_li, DL.isi_ls, DL.isi_ln, DL.isi_lt, DL.isi_ll, DL.tyD_s, DL.tyD_t, DL.tyD_l, DL.tyD_i, DL.kIx_s, DL.ix_l, DL.ix_t, DL.at_0, DL.at_1, DL.at_2, DL.at_3, DL.at_4, DL.ixN_lt, DL.app_F, DL.ext_F, DL.add_l, DL.add_t, DL.sl_l, DL.sl_t] $l)
theorem fine_mem : ∀ d ∈ fineL, ∃ t w, d = .tuple [t, w] ∧ (rdR 0 t w && rdR 1 t w) = true := fun d hd => by
  have h := List.all_eq_true.mp fine_form d hd
  have h2 := List.all_eq_true.mp fine_ok d hd
  split at h
  · rename_i t w
    exact ⟨t, w, rfl, h2⟩
  · cases h
theorem loop1 {s sd : D} {n : Nat} (hs : Sd n sd) (hn : n ≤ 1000) {y3 : Ent} (r : List Ent) : ∃ sd' y3', Sd (n + oddL.length) sd' ∧ forL (tName 3) b_law_1 oddL (.fz s :: .ow sd :: .fz (.list oddL) :: y3 :: r) = .ok .nx (.fz s :: .ow sd' :: .fz (.list oddL) :: y3' :: r) := by
  obtain ⟨e, h1, sd', y, h2, rfl⟩ := for_keep (h := tName 3) (body := b_law_1) (fun j e => ∃ sd' y, Sd j sd' ∧ e = .fz s :: .ow sd' :: .fz (.list oddL) :: y :: r) oddL n _ (fun t ht j env hj ⟨sd', y, p1, p2⟩ => by
    subst p2
    have := odd_len
    obtain ⟨sd2, q1, q2⟩ := turn1 (t := t) (s := s) (x2 := .list oddL) (x3 := .none) (x4 := .none) (x5 := .none) (x6 := .none) (x7 := .none) (x8 := .none) (x9 := .none) p1 (by omega) (List.all_eq_true.mp odd_ok t ht) (y3 := y) r
    exact ⟨_, q2, sd2, _, q1, rfl⟩) ⟨sd, y3, hs, rfl⟩
  exact ⟨sd', y, h2, h1⟩
theorem loop2 {s sd x2 : D} {n : Nat} (hs : Sd n sd) (hn : n ≤ 10000) {y3 y4 : Ent} (r : List Ent) : ∃ sd' y3' y4', Sd (n + fineL.length) sd' ∧ forL (tTup 2 (DL.tCons (tName 3) (DL.tCons (tName 4) DL.tNil))) b_law_2 fineL (.fz s :: .ow sd :: .fz x2 :: y3 :: y4 :: r) = .ok .nx (.fz s :: .ow sd' :: .fz x2 :: y3' :: y4' :: r) := by
  obtain ⟨e, h1, sd', y, z, h2, rfl⟩ := for_keep (h := tTup 2 (DL.tCons (tName 3) (DL.tCons (tName 4) DL.tNil))) (body := b_law_2) (fun j e => ∃ sd' y z, Sd j sd' ∧ e = .fz s :: .ow sd' :: .fz x2 :: y :: z :: r) fineL n _ (fun t ht j env hj ⟨sd', y, z, p1, p2⟩ => by
    subst p2
    have := fine_len
    obtain ⟨t, w, rfl, hw⟩ := fine_mem t ht
    obtain ⟨sd2, q1, q2⟩ := turn2 (t := t) (w := w) (s := s) (x2 := x2) p1 (by omega) hw (y3 := y) (y4 := z) r
    exact ⟨_, q2, sd2, _, _, q1, rfl⟩) ⟨sd, y3, y4, hs, rfl⟩
  exact ⟨sd', y, z, h2, h1⟩
theorem loop3 {s sd x2 y3 y4 y5 y6 : Ent} {r : List Ent} : forL (tName 5) b_law_3 [.int 40, .int 41, .int 39] (s :: sd :: x2 :: y3 :: y4 :: y5 :: y6 :: r) = .ok .nx (s :: sd :: x2 :: .fz (textM 39) :: y4 :: .fz (.int 39) :: .fz (.tuple (rowsM 39)) :: r) := by
  rw [for_cons, turn3a many40 (by decide), kLoop_nx, for_cons, turn3b many41 (by decide), kLoop_nx, for_cons, turn3a many39 (by decide), kLoop_nx, for_nil]
theorem loop4 {s sd x2 : D} {n : Nat} (hs : Sd n sd) (hn : n ≤ 20000) {y3 : Ent} (r : List Ent) : ∃ sd' y3', Sd (n + 24) sd' ∧ forL (tName 3) b_law_4 noneL (.fz s :: .ow sd :: .fz x2 :: y3 :: r) = .ok .nx (.fz s :: .ow sd' :: .fz x2 :: y3' :: r) := by
  obtain ⟨e, h1, sd', y, h2, rfl⟩ := for_keep (h := tName 3) (body := b_law_4) (fun j e => ∃ sd' y, Sd j sd' ∧ e = .fz s :: .ow sd' :: .fz x2 :: y :: r) noneL n _ (fun t ht j env hj ⟨sd', y, p1, p2⟩ => by
    subst p2
    have : noneL.length = 24 := rfl
    obtain ⟨sd2, q1, q2⟩ := turn4 (t := t) (s := s) (x2 := x2) p1 (by omega) (List.all_eq_true.mp none_ok t ht) (y3 := y) r
    exact ⟨_, q2, sd2, _, q1, rfl⟩) ⟨sd, y3, hs, rfl⟩
  exact ⟨sd', y, h2, h1⟩
theorem loop5 {s sd x2 : D} {n : Nat} (hs : Sd n sd) (hn : n ≤ 30000) {y3 y4 y5 y6 y7 y8 y9 : Ent} (r : List Ent) : ∃ sd' y, Sd (n + 6) sd' ∧ forL (tName 9) b_law_5 clauseL (.fz s :: .ow sd :: .fz x2 :: y3 :: y4 :: y5 :: y6 :: y7 :: y8 :: y9 :: r) = .ok .nx (.fz s :: .ow sd' :: .fz x2 :: y3 :: y4 :: y5 :: y6 :: y7 :: y8 :: y :: r) := by
  obtain ⟨e, h1, sd', y, h2, rfl⟩ := for_keep (h := tName 9) (body := b_law_5) (fun j e => ∃ sd' y, Sd j sd' ∧ e = .fz s :: .ow sd' :: .fz x2 :: y3 :: y4 :: y5 :: y6 :: y7 :: y8 :: y :: r) clauseL n _ (fun t ht j env hj ⟨sd', y, p1, p2⟩ => by
    subst p2
    have : clauseL.length = 6 := rfl
    obtain ⟨sd2, q1, q2⟩ := turn5 (c := t) (s := s) (x2 := x2) p1 (by omega) ht (y3 := y3) (y4 := y4) (y5 := y5) (y6 := y6) (y7 := y7) (y8 := y8) (y9 := y) r
    exact ⟨_, q2, sd2, _, q1, rfl⟩) ⟨sd, y9, hs, rfl⟩
  exact ⟨sd', y, h2, h1⟩
theorem law_true (ns : List Int) (hl : ns.length ≤ 63) : ∃ out, f_law [.list (ns.map PyData.int)] = .ok (.fz (.bool true)) out := by
  have a0 : f__law_seed [.list (ns.map PyData.int)] = .ok (.ow (.list [.tuple (ns.map PyData.int), .int 0, .int 0])) .none := by
    simp_arith [seval, f__law_seed, r_run, g__law_seed]
  have a1 := odd_run
  have a2 := fine_run
  have l1 := odd_len
  have l2 := fine_len
  have s0 : Sd 0 (.list [.tuple (ns.map PyData.int), .int 0, .int 0]) := ⟨ns, 0, 0, rfl, by decide, by decide, by decide⟩
  obtain ⟨sd1, u3, s1, e1⟩ := loop1 (s := .list (ns.map PyData.int)) s0 (by omega) (y3 := .no) [.no, .no, .no, .no, .no, .no, .no, .no, .no]
  obtain ⟨sd2, u4, u5, s2, e2⟩ := loop2 (s := .list (ns.map PyData.int)) (x2 := .list oddL) s1 (by omega) (y3 := u3) (y4 := .no) [.no, .no, .no, .no, .no, .no, .no, .no]
  have e3 := loop3 (s := .fz (.list (ns.map PyData.int))) (sd := .ow sd2) (x2 := .fz (.list oddL)) (y3 := u4) (y4 := u5) (y5 := .no) (y6 := .no) (r := [.no, .no, .no, .no, .no, .no])
  generalize textM 39 = t39 at e3
  generalize rowsM 39 = r39 at e3
  obtain ⟨sd4, u6, s4, e4⟩ := loop4 (s := .list (ns.map PyData.int)) (x2 := .list oddL) s2 (by omega) (y3 := .fz t39) [u5, .fz (.int 39), .fz (.tuple r39), .fz (.list noneL), .no, .no, .no, .no, .no]
  have e5 := wide_run (.fz (.list (ns.map PyData.int))) (.ow sd4) (.fz (.list oddL)) u6 u5 (.fz (.int 39)) (.fz (.tuple r39)) (.fz (.list noneL)) .no .no
  have e6 := sortedF_is wide_sort
  obtain ⟨sd7, u7, s7, e7⟩ := loop5 (s := .list (ns.map PyData.int)) (x2 := .list oddL) s4 (by omega) (y3 := u6) (y4 := u5) (y5 := .fz (.int 39)) (y6 := .fz (.tuple r39)) (y7 := .fz (.list noneL)) (y8 := .ow (.list wideL)) (y9 := .no) [.no, .no, .no]
  obtain ⟨x, sd8, e8, hx, s8⟩ := one_of_ok (xs := thingL) s7 (by omega) (by decide) (by decide)
  have hx := List.all_eq_true.mp thing_ok x hx
  rw [Bool.and_eq_true, Bool.and_eq_true, Bool.and_eq_true, Bool.and_eq_true] at hx
  obtain ⟨x0, x1, x2, x3, x4⟩ := hx
  obtain ⟨⟨o1, y1⟩, _⟩ := rdB_ok x1
  obtain ⟨⟨o2, y2⟩, _⟩ := rdB_ok x2
  obtain ⟨⟨o3, y3⟩, _⟩ := rdB_ok x3
  obtain ⟨⟨o4, y4⟩, _⟩ := rdB_ok x4
  have e9 := eq_self' x0
  refine ⟨.none, ?_⟩
  have c1 : noneL = [.str "", .str " ", .str "-", .str "a ", .str " a", .str "a  b", .str "b a", .str "a a", .str "a -a", .str "A", .str "a1", .str ". .", .str ".a", .str "a .", .str "a.", .str "--a", .str "- a", .str "abcdefghi", .str "a;b", .str "a ; b", .str "a\n", .str "-a -a", .str "b -a", .str "pick -"] := rfl
  have c2 : noneL.length ≤ 16777216 := by decide
  have c3 : clauseL = [.tuple [], .tuple [.tuple [.str "a", .bool true]], .tuple [.tuple [.str "a", .bool false], .tuple [.str "b", .bool true]], .tuple [.tuple [.str "abcdefgh", .bool false]], .tuple [.tuple [.str "own", .bool true], .tuple [.str "pick", .bool false]], .tuple wideS] := rfl
  have c4 : clauseL.length ≤ 16777216 := by decide
  have c5 : thingL = [.none, .int 5, .bool true, .list [.str "pick -"], .tuple [.str "a"], .tuple [], .list [.list [.str "a"]]] := rfl
  have c6 : thingL.length ≤ 16777216 := by decide
  have c7 : ups 0 4 = [.int 0, .int 1, .int 2, .int 3] := rfl
  have c8 : ∀ a : D, [[a], [a], [a], [a]].flatten = [a, a, a, a] := fun _ => rfl
  simp_arith [seval, f_law, r_run, g_law, a0, a1, a2, e1, e2, e3, e4, e5, e6, e7, e8, ← c1, ← c3, ← c5, c7, c8, lc_cons, e_law_2, y1, y2, y3, y4, e9]
end KH
end
set_option maxRecDepth 100000
set_option maxHeartbeats 0
namespace KH
open PySem PySem.Spec L2 DL
open PyProof.Rows hiding St
abbrev PL : Program := (PySem.Challenge.rw_onlytheseen_k37_texts_of_sayings_and_cla).prog
theorem ini : IniOk PL s_init where
  body := ⟨_, _, _, _, _, _, _, _, _, _, _, _, rfl, by decide +kernel, _, fun env h => ⟨by unfold interactive; rw [h]; decide +kernel, rfl⟩⟩
  par := ⟨_, _, rfl, rfl⟩
  scope := NdefX.nscope_by (by decide +kernel)
  sup := by rfl
  bind := fun F h doc pm ct us hl => match us, hl with | [_, _], _ => by unfold NdefX.NF.fd; rw [h]; rfl
  top := by kernel_rfl
theorem facts {w : World} {K : PySem.W.Frag} {h : Heap} {mg : Str → Option Value} {f : Addr} (X : K.In h) (G : h.Ns mainGlobals mg) (hfa : mg ("law" : Str) = some (.ref f)) (c : SaysM fa fn s_init fileS xs K) :
    ∃ fd : FuncData, (∀ (s : Shared) (v : Value), BindsTo s fd ⟨[v], []⟩ [("script", v)]) ∧ ∀ base : Heap, K.In base → base.Ns mainGlobals mg → FnG PL w K mg base 12 f fd ["script"] (spD K none 1 f_law) := by
  have e := hfa.symm.trans (He.glo_ok X G (c.c.fact 32 (f := .glo "law") rfl))
  cases e
  obtain ⟨fd, F⟩ := c.c.def_ 32 (d := d_law) rfl
  have b := FunD.bindsA (ps := ["script"]) F bind_law
  refine ⟨fd, fun s v => b s [v] rfl, fun base hK hN => ?_⟩
  have ex := excK_of (P := PL) (w := w) (xs := xs) hK hN (He.free_ok hK hN (c.c.fact 44 (f := .free "super") rfl)) ini c.i c.e
  obtain ⟨fd', F', G'⟩ := (ok_law (⟨hK, hN, c.c, ex⟩ : Wz PL w K mg base)).ex
  have same : fd' = fd := by
    obtain ⟨_, _, _, _, _, _, _, _, _, _, _, l1, _⟩ := F.ex
    obtain ⟨_, _, _, _, _, _, _, _, _, _, _, l2, _⟩ := F'.ex
    have z := l2.symm.trans l1
    cases z
    rfl
  subst same
  exact G'
end KH
open PySem PySem.W PySem.Calls PyProof.Rows
theorem PySem.Challenge.cw_onlytheseen_k37_texts_of_sayings_and_cla_holds : PySem.Challenge.rw_onlytheseen_k37_texts_of_sayings_and_cla.Holds := by
  w_on; o_law
  refine HandSHeadRun.head_any (r := OpenLaw.row PySem.Challenge.rw_onlytheseen_k37_texts_of_sayings_and_cla) (q := view (OpenLaw.row PySem.Challenge.rw_onlytheseen_k37_texts_of_sayings_and_cla).prog [45]) (H := KH.hk) (ob := KH.ob) (M := 3000) (loose := KH.loose) (d := HandSHeadRun.topDef (OpenLaw.row PySem.Challenge.rw_onlytheseen_k37_texts_of_sayings_and_cla).prog 45) (kwd := []) KH.ob_eq
    (by kernel_rfl) (fun s => by kernel_rfl) KH.run (by kernel_rfl) (by kernel_rfl) (by kernel_rfl) (by rfl) (by first | assumption | decide +kernel) (by decide +kernel) ⟨rfl, rfl, rfl, rfl, rfl, by decide +kernel⟩ ?hw ?hc
  case hw => w_witness2
  case hc =>
    refine DL.walk_G (l := PySem.Challenge.rw_onlytheseen_k37_texts_of_sayings_and_cla) (n := 63) (k := 12) (x := "script") rfl (by decide) (by kernel_rfl) ⟨rfl, by decide, by decide⟩ ?F
    intro w mg fa h Y G hmg0
    obtain ⟨K, KX, c⟩ := Y
    have hmg : mg ("law" : PySem.Str) = some (.ref fa) := by
      have e : (HandSHeadRun.topDef (OpenLaw.row PySem.Challenge.rw_onlytheseen_k37_texts_of_sayings_and_cla).prog 45).name = ("law" : PySem.Str) := by kernel_rfl
      rw [← e]
      exact hmg0
    obtain ⟨fd, hb, hF⟩ := KH.facts (w := w) KX G hmg c
    exact ⟨K, fd, KH.f_law, KX, hb, fun ns hl hz => KH.law_true ns hl, hF⟩
