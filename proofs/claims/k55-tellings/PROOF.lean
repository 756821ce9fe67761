import PyProof.Rows.All
import Wide.All
import OpenK.AllK
import Wide.FinOn
import HandS.ForMost
import HandS.Exc
import HandS.TryOnly
import HandS.ExcOwn
import HandS.HeadHook1
import HandS.HeadHook2
import HandS.Wide
import HandS.TupAny
import HandS.Flow
import HandS.Style
import HandS.Deep
import HandS.StrMore
import HandS.WordsExc
import HandS.Property
import HandS.Star
import HandS.ExcInit
import HandS.ExcField
import HandS.ExcIs
import KE.KExcIs
import HandS.Text
import HandS.FStr
import HandS.Replace
import HandS.ReplaceLit
import PyProof.StrBlock2
import KE.KItemsList
import PyProof.ZipIter
import HandS.ListItems
import HandS.HeadEnd
import KE.KStateDown
import HandS.Base
import HandS.Call
import HandS.Ends
import HandS.More
import HandS.Words
import HandS.Defaults
import HandS.Head0
import HandS.Head1
import HandS.Head2
import PySem.Challenge.RW_toldatlast_k55_tellings_that_are_none
set_option Elab.async false
set_option linter.all false
set_option maxRecDepth 100000
set_option maxHeartbeats 1000000
/-! The M layer: values as pure data over a small store; what a def does as a plain function; its promise. -/
noncomputable section
namespace MP
open PySem PySem.Spec PyProof.Rows L2
/-- a value: lists and tuples that nobody changes are trees; what may be changed is a cell of the store -/
inductive D where
  | non | bl (b : Bool) | int (i : Int) | str (x : Str) | tup (xs : List D) | lst (xs : List D) | scr (xs : List Int) | ref (n : Nat)
/-- a cell of the store -/
inductive Cell where
  | dead | lst (xs : List D) | dct (kvs : List (Key × D)) | ins (C : Str) (fs : List (Str × D))
abbrev Mem := List Cell
abbrev En := List (Option D)
/-- where the cells stand; hid: lists under construction -/
structure TR where
  m : Nat → Option Addr
  hid : List Addr
/-- what may be written -/
def Lv (α : TR) (a : Addr) : Prop := (∃ n, α.m n = some a) ∨ a ∈ α.hid
/-- an object that is not a live cell's, and tells u -/
def Fz (K : PySem.W.Frag) (H : Hp) (α : TR) (a : Addr) (u : HO) : Prop := Rd H a u ∧ ¬ Lv α a
def FzL (K : PySem.W.Frag) (H : Hp) (α : TR) (a : Addr) (xs : List V) : Prop :=
  Fz K H α a (.lst xs) ∨ ∃ (o : Obj) (its : Array Value) (n : Nat), K.lookup a = some o ∧ o.cls = .type "list" ∧ o.dict = none ∧ o.data = .seq its n ∧ its.size ≤ sizeLine ∧ Vals xs its.toList
def FzT (K : PySem.W.Frag) (H : Hp) (α : TR) (a : Addr) (xs : List V) : Prop :=
  Fz K H α a (.tup xs) ∨ ∃ (o : Obj) (its : Array Value) (n : Nat), K.lookup a = some o ∧ o.cls = .type "tuple" ∧ o.data = .seq its n ∧ its.size ≤ sizeLine ∧ Vals xs its.toList
theorem FzL.sq {K : PySem.W.Frag} {H : Hp} {α : TR} {a : Addr} {xs : List V} (h : FzL K H α a xs) : SqL K H a xs := h.elim (fun z => .inl z.1) .inr
theorem FzT.sq {K : PySem.W.Frag} {H : Hp} {α : TR} {a : Addr} {xs : List V} (h : FzT K H α a xs) : SqT K H a xs := h.elim (fun z => .inl z.1) .inr
mutual
/-- the value v is the data d -/
def Rp (K : PySem.W.Frag) (H : Hp) (α : TR) (N : Nat) : D → V → Prop
  | .non, v => v = .non
  | .bl b, v => v = .bl b
  | .int i, v => v = .int i
  | .str x, v => v = .str x ∧ x.length ≤ sizeLine
  | .tup ds, v => ds.length ≤ sizeLine ∧ ∃ a xs, v = .ref a ∧ FzT K H α a xs ∧ Rps K H α N ds xs
  | .lst ds, v => ds.length ≤ sizeLine ∧ ∃ a xs, v = .ref a ∧ (H a = some (.lst xs) ∧ ¬ Lv α a) ∧ Rps K H α N ds xs
  | .scr ns, v => ∃ a, v = .ref a ∧ FzL K H α a (ns.map V.int)
  | .ref n, v => n < N ∧ ∀ a, α.m n = some a → v = .ref a
def Rps (K : PySem.W.Frag) (H : Hp) (α : TR) (N : Nat) : List D → List V → Prop
  | [], vs => vs = []
  | d :: ds, vs => ∃ v r, vs = v :: r ∧ Rp K H α N d v ∧ Rps K H α N ds r
end
/-- the later state: what is no live cell stays -/
structure Go (H : Hp) (α : TR) (N : Nat) (H' : Hp) (α' : TR) (N' : Nat) : Prop where
  len : N ≤ N'
  keep : ∀ a o, H a = some o → ¬ Lv α a → H' a = some o
  there : ∀ a, H a ≠ none → H' a ≠ none
  new : ∀ a, Lv α' a → Lv α a ∨ H a = none
  newm : ∀ n a, α'.m n = some a → α.m n = some a ∨ N ≤ n
  hid : α'.hid = α.hid
  hk : ∀ a, a ∈ α.hid → H' a = H a
theorem Go.refl {H : Hp} {α : TR} {N : Nat} : Go H α N H α N := ⟨Nat.le_refl _, fun _ _ h _ => h, fun _ h => h, fun _ h => .inl h, fun _ _ h => .inl h, rfl, fun _ _ => rfl⟩
theorem Go.trans {H H1 H2 : Hp} {α α1 α2 : TR} {N N1 N2 : Nat} (g : Go H α N H1 α1 N1) (g' : Go H1 α1 N1 H2 α2 N2) : Go H α N H2 α2 N2 := by
  refine ⟨Nat.le_trans g.len g'.len, fun a o h n => g'.keep a o (g.keep a o h n) fun e => ?_, fun a h => g'.there a (g.there a h), fun a e => ?_, fun n a e => ?_, g'.hid.trans g.hid, fun a ha => (g'.hk a (by rw [g.hid]; exact ha)).trans (g.hk a ha)⟩
  · rcases g.new a e with z | z
    · exact n z
    · rw [z] at h; cases h
  · rcases g'.new a e with z | z
    · exact g.new a z
    · refine .inr ?_
      cases q : H a with
      | none => rfl
      | some o => exact absurd z (g.there a (by rw [q]; exact fun z => nomatch z))
  · rcases g'.newm n a e with z | z
    · exact g.newm n a z
    · exact .inr (Nat.le_trans g.len z)
/-- less than that: what is no live cell stays so -/
structure Ge (H : Hp) (α : TR) (N : Nat) (H' : Hp) (α' : TR) (N' : Nat) : Prop where
  len : N ≤ N'
  keep : ∀ a o, H a = some o → ¬ Lv α a → H' a = some o ∧ ¬ Lv α' a
  newm : ∀ n a, α'.m n = some a → α.m n = some a ∨ N ≤ n
theorem Go.ge {H H' : Hp} {α α' : TR} {N N' : Nat} (g : Go H α N H' α' N') : Ge H α N H' α' N' :=
  ⟨g.len, fun a o h n => ⟨g.keep a o h n, fun e => by
    rcases g.new a e with z | z
    · exact n z
    · rw [z] at h; cases h⟩, g.newm⟩
theorem Ge.trans {H H1 H2 : Hp} {α α1 α2 : TR} {N N1 N2 : Nat} (g : Ge H α N H1 α1 N1) (g' : Ge H1 α1 N1 H2 α2 N2) : Ge H α N H2 α2 N2 :=
  ⟨Nat.le_trans g.len g'.len, fun a o h n => let ⟨h1, n1⟩ := g.keep a o h n; g'.keep a o h1 n1, fun n a e => by
    rcases g'.newm n a e with z | z
    · exact g.newm n a z
    · exact .inr (Nat.le_trans g.len z)⟩
theorem Fz.ge {K : PySem.W.Frag} {H H' : Hp} {α α' : TR} {N N' : Nat} {a : Addr} {u : HO} (g : Ge H α N H' α' N') (h : Fz K H α a u) : Fz K H' α' a u := by
  obtain ⟨r, n⟩ := h
  rcases r with r | ⟨o, r⟩
  · exact ⟨.inl (g.keep a _ r n).1, (g.keep a _ r n).2⟩
  · exact ⟨.inr ⟨o, (g.keep a _ r n).1⟩, (g.keep a _ r n).2⟩
theorem FzL.ge {K : PySem.W.Frag} {H H' : Hp} {α α' : TR} {N N' : Nat} {a : Addr} {u : List V} (g : Ge H α N H' α' N') (h : FzL K H α a u) : FzL K H' α' a u := h.elim (fun z => .inl (z.ge g)) .inr
theorem FzT.ge {K : PySem.W.Frag} {H H' : Hp} {α α' : TR} {N N' : Nat} {a : Addr} {u : List V} (g : Ge H α N H' α' N') (h : FzT K H α a u) : FzT K H' α' a u := h.elim (fun z => .inl (z.ge g)) .inr
section
variable {K : PySem.W.Frag} {H H' : Hp} {α α' : TR} {N N' : Nat}
mutual
theorem Rp.ge (g : Ge H α N H' α' N') : ∀ {d : D} {v : V}, Rp K H α N d v → Rp K H' α' N' d v
  | .non, _, h => h
  | .bl _, _, h => h
  | .int _, _, h => h
  | .str _, _, h => h
  | .tup ds, v, h => by
    unfold Rp at h ⊢
    obtain ⟨z, a, xs, e, f, r⟩ := h
    exact ⟨z, a, xs, e, f.ge g, Rps.ge g r⟩
  | .lst ds, v, h => by
    unfold Rp at h ⊢
    obtain ⟨z, a, xs, e, f, r⟩ := h
    exact ⟨z, a, xs, e, g.keep a _ f.1 f.2, Rps.ge g r⟩
  | .scr ns, v, h => by
    unfold Rp at h ⊢
    obtain ⟨a, e, f⟩ := h
    exact ⟨a, e, f.ge g⟩
  | .ref n, v, h => by
    unfold Rp at h ⊢
    refine ⟨Nat.lt_of_lt_of_le h.1 g.len, fun a e => ?_⟩
    rcases g.newm n a e with z | l
    · exact h.2 a z
    · exact absurd h.1 (Nat.not_lt.mpr l)
theorem Rps.ge (g : Ge H α N H' α' N') : ∀ {ds : List D} {vs : List V}, Rps K H α N ds vs → Rps K H' α' N' ds vs
  | [], _, h => h
  | d :: ds, vs, h => by
    unfold Rps at h ⊢
    obtain ⟨v, r, e, h1, h2⟩ := h
    exact ⟨v, r, e, Rp.ge g h1, Rps.ge g h2⟩
end
theorem Rp.go (g : Go H α N H' α' N') {d : D} {v : V} (h : Rp K H α N d v) : Rp K H' α' N' d v := h.ge g.ge
theorem Rps.go (g : Go H α N H' α' N') {ds : List D} {vs : List V} (h : Rps K H α N ds vs) : Rps K H' α' N' ds vs := h.ge g.ge
theorem Rps.nil : Rps K H α N [] [] := by unfold Rps; rfl
theorem Rps.cons {d : D} {v : V} {ds : List D} {vs : List V} (h : Rp K H α N d v) (r : Rps K H α N ds vs) : Rps K H α N (d :: ds) (v :: vs) := by
  unfold Rps; exact ⟨v, vs, rfl, h, r⟩
theorem Rps.length : ∀ {ds : List D} {vs : List V}, Rps K H α N ds vs → vs.length = ds.length
  | [], vs, h => by unfold Rps at h; rw [h]; rfl
  | d :: ds, vs, h => by
    unfold Rps at h
    obtain ⟨v, r, rfl, _, h2⟩ := h
    rw [List.length_cons, List.length_cons, Rps.length h2]
theorem Rps.nil_inv {vs : List V} (h : Rps K H α N [] vs) : vs = [] := by unfold Rps at h; exact h
theorem Rps.cons_inv {d : D} {ds : List D} {vs : List V} (h : Rps K H α N (d :: ds) vs) : ∃ v r, vs = v :: r ∧ Rp K H α N d v ∧ Rps K H α N ds r := by unfold Rps at h; exact h
theorem Rps.append : ∀ {ds es : List D} {vs us : List V}, Rps K H α N ds vs → Rps K H α N es us → Rps K H α N (ds ++ es) (vs ++ us)
  | [], es, vs, us, h, h' => by rw [Rps.nil_inv h]; exact h'
  | d :: ds, es, vs, us, h, h' => by
    obtain ⟨v, r, rfl, h1, h2⟩ := Rps.cons_inv h
    exact Rps.cons h1 (Rps.append h2 h')
theorem Rps.get : ∀ {ds : List D} {vs : List V} {i : Nat} {d : D}, Rps K H α N ds vs → ds[i]? = some d → ∃ v, vs[i]? = some v ∧ Rp K H α N d v
  | [], vs, i, d, h, e => by simp at e
  | d0 :: ds, vs, i, d, h, e => by
    obtain ⟨v, r, rfl, h1, h2⟩ := Rps.cons_inv h
    cases i with
    | zero => simp at e; subst e; exact ⟨v, rfl, h1⟩
    | succ i => simp at e; exact Rps.get (ds := ds) (i := i) h2 e
theorem Rps.get' : ∀ {ds : List D} {vs : List V} {i : Nat} {v : V}, Rps K H α N ds vs → vs[i]? = some v → ∃ d, ds[i]? = some d ∧ Rp K H α N d v
  | [], vs, i, d, h, e => by rw [Rps.nil_inv h] at e; simp at e
  | d0 :: ds, vs, i, d, h, e => by
    obtain ⟨v, r, rfl, h1, h2⟩ := Rps.cons_inv h
    cases i with
    | zero => simp at e; subst e; exact ⟨_, rfl, h1⟩
    | succ i => simp at e; exact Rps.get' (ds := ds) (i := i) h2 e
theorem Rps.drop : ∀ {ds : List D} {vs : List V} (n : Nat), Rps K H α N ds vs → Rps K H α N (ds.drop n) (vs.drop n)
  | _, _, 0, h => h
  | [], vs, n + 1, h => by rw [Rps.nil_inv h]; exact Rps.nil
  | d :: ds, vs, n + 1, h => by
    obtain ⟨v, r, rfl, h1, h2⟩ := Rps.cons_inv h
    exact Rps.drop n h2
theorem Rps.take : ∀ {ds : List D} {vs : List V} (n : Nat), Rps K H α N ds vs → Rps K H α N (ds.take n) (vs.take n)
  | _, _, 0, h => Rps.nil
  | [], vs, n + 1, h => by rw [Rps.nil_inv h]; exact Rps.nil
  | d :: ds, vs, n + 1, h => by
    obtain ⟨v, r, rfl, h1, h2⟩ := Rps.cons_inv h
    exact Rps.cons h1 (Rps.take n h2)
theorem Rps.set {d : D} {v : V} (hd : Rp K H α N d v) : ∀ {ds : List D} {vs : List V} (n : Nat), Rps K H α N ds vs → Rps K H α N (ds.set n d) (vs.set n v)
  | [], vs, n, h => by rw [Rps.nil_inv h]; exact Rps.nil
  | d0 :: ds, vs, 0, h => by
    obtain ⟨v0, r, rfl, h1, h2⟩ := Rps.cons_inv h
    exact Rps.cons hd h2
  | d0 :: ds, vs, n + 1, h => by
    obtain ⟨v0, r, rfl, h1, h2⟩ := Rps.cons_inv h
    exact Rps.cons h1 (Rps.set hd n h2)
theorem Rps.dropLast : ∀ {ds : List D} {vs : List V}, Rps K H α N ds vs → Rps K H α N ds.dropLast vs.dropLast := fun {ds vs} h => by
  rw [List.dropLast_eq_take, List.dropLast_eq_take, h.length]; exact h.take _
theorem Rps.reverse : ∀ {ds : List D} {vs : List V}, Rps K H α N ds vs → Rps K H α N ds.reverse vs.reverse
  | [], vs, h => by rw [Rps.nil_inv h]; exact Rps.nil
  | d :: ds, vs, h => by
    obtain ⟨v, r, rfl, h1, h2⟩ := Rps.cons_inv h
    rw [List.reverse_cons, List.reverse_cons]
    exact Rps.append (Rps.reverse h2) (Rps.cons h1 Rps.nil)
end
/-- a cell stands at its address -/
def CellOk (K : PySem.W.Frag) (H : Hp) (α : TR) (N n : Nat) : Cell → Prop
  | .dead => α.m n = none
  | .lst ds => ds.length ≤ sizeLine ∧ ∃ a xs, α.m n = some a ∧ H a = some (.lst xs) ∧ Rps K H α N ds xs
  | .dct kvs => ∃ a xs, α.m n = some a ∧ H a = some (.dK xs) ∧ xs.map (·.1) = kvs.map (·.1) ∧ Rps K H α N (kvs.map (·.2)) (xs.map (·.2))
  | .ins C fs => ∃ a dx xs, α.m n = some a ∧ H a = some (.ins (He.ga K C) dx xs) ∧ H dx = some (.own a) ∧ xs.map (·.1) = fs.map (·.1) ∧ Rps K H α N (fs.map (·.2)) (xs.map (·.2))
structure Rel (K : PySem.W.Frag) (μ : Mem) (α : TR) (H : Hp) : Prop where
  inj : ∀ n m a, α.m n = some a → α.m m = some a → n = m
  dom : ∀ n a, α.m n = some a → n < μ.length
  cell : ∀ n c, μ[n]? = some c → CellOk K H α μ.length n c
  dis : ∀ n a, α.m n = some a → a ∉ α.hid
  hl : ∀ a, a ∈ α.hid → ∃ xs, H a = some (.lst xs)
/-- the slots -/
def EnR (K : PySem.W.Frag) (H : Hp) (α : TR) (N : Nat) (e : En) (σ : L2.St) : Prop :=
  e.length = σ.length ∧ ∀ (i : Nat) (d : D), e[i]? = some (some d) → ∃ v, σ[i]? = some (some v) ∧ Rp K H α N d v
theorem EnR.ge {K : PySem.W.Frag} {H H' : Hp} {α α' : TR} {N N' : Nat} {e : En} {σ : L2.St} (g : Ge H α N H' α' N') (h : EnR K H α N e σ) : EnR K H' α' N' e σ :=
  ⟨h.1, fun i d q => let ⟨v, h1, h2⟩ := h.2 i d q; ⟨v, h1, h2.ge g⟩⟩
theorem EnR.go {K : PySem.W.Frag} {H H' : Hp} {α α' : TR} {N N' : Nat} {e : En} {σ : L2.St} (g : Go H α N H' α' N') (h : EnR K H α N e σ) : EnR K H' α' N' e σ :=
  ⟨h.1, fun i d q => let ⟨v, h1, h2⟩ := h.2 i d q; ⟨v, h1, h2.go g⟩⟩
theorem EnR.set {K : PySem.W.Frag} {H : Hp} {α : TR} {N : Nat} {e : En} {σ : L2.St} {d : D} {v : V} (h : EnR K H α N e σ) (r : Rp K H α N d v) (i : Nat) : EnR K H α N (e.set i (some d)) (σ.set i (some v)) := by
  refine ⟨by simp [h.1], fun j c q => ?_⟩
  by_cases hj : i = j
  · subst hj
    by_cases hl : i < e.length
    · rw [List.getElem?_set_self hl] at q
      cases q
      exact ⟨v, by rw [List.getElem?_set_self (by rw [← h.1]; exact hl)], r⟩
    · rw [List.getElem?_eq_none (by simpa using Nat.le_of_not_lt hl)] at q; cases q
  · rw [List.getElem?_set_ne hj] at q ⊢
    exact h.2 j c q
/-! ### results -/
inductive Res (α : Type) where
  | ok (a : α) (μ : Mem)
  | exc (C : Str) (x : D) (e : En) (μ : Mem)
  | stuck
def Res.bind {α β : Type} (r : Res α) (k : α → Mem → Res β) : Res β := match r with
  | .ok a μ => k a μ
  | .exc C x e μ => .exc C x e μ
  | .stuck => .stuck
@[simp] theorem Res.bind_ok {α β : Type} (a : α) (μ : Mem) (k : α → Mem → Res β) : (Res.ok a μ).bind k = k a μ := rfl
@[simp] theorem Res.bind_exc {α β : Type} (C : Str) (x : D) (e : En) (μ : Mem) (k : α → Mem → Res β) : (Res.exc C x e μ).bind k = .exc C x e μ := rfl
@[simp] theorem Res.bind_stuck {α β : Type} (k : α → Mem → Res β) : (Res.stuck : Res α).bind k = .stuck := rfl
/-- an expression; an argument list -/
abbrev ME := En → Mem → Res D
abbrev MA := En → Mem → Res (List D)
/-- a test -/
abbrev MT := En → Mem → Res Bool
/-- a place: what is wished of an exception; what stands (an exception that is held); the slots that are not to be written -/
structure WS where
  w : WX
  S : L2.St → Hp → TR → Nat → Prop
  held : List Nat
  ge : ∀ {σ : L2.St} {H H' : Hp} {α α' : TR} {N N' : Nat}, Ge H α N H' α' N' → S σ H α N → S σ H' α' N'
  set : ∀ {σ : L2.St} {H : Hp} {α : TR} {N i : Nat} {o : Option V}, i ∉ held → S σ H α N → S (σ.set i o) H α N
/-- what is wanted of an exception -/
def PostX (K : PySem.W.Frag) (W : WS) (H : Hp) (α : TR) (N : Nat) (C : Str) (x : D) (e : En) (μ' : Mem) : Prop :=
  ∀ v dd σ' H' α', Go H α N H' α' μ'.length → Rel K μ' α' H' → EnR K H' α' μ'.length e σ' → W.S σ' H' α' μ'.length → H' dd = some (.xd [(("value" : Str), v)]) → Rp K H' α' μ'.length x v → W.w (.ref (He.ga K C)) (some dd) σ' H'
def Post (K : PySem.W.Frag) (W : WS) (H : Hp) (α : TR) (N : Nat) {β γ : Type} (R : Hp → TR → Nat → β → γ → Prop) (Q : γ → Hp → Prop) : Res β → Prop
  | .ok d μ' => ∀ v H' α', Go H α N H' α' μ'.length → Rel K μ' α' H' → R H' α' μ'.length d v → Q v H'
  | .exc C x e μ' => PostX K W H α N C x e μ'
  | .stuck => False
def RV (K : PySem.W.Frag) : Hp → TR → Nat → D → V → Prop := fun H α N d v => Rp K H α N d v
def RVs (K : PySem.W.Frag) : Hp → TR → Nat → List D → List V → Prop := fun H α N d v => Rps K H α N d v
def RB : Hp → TR → Nat → Bool → Bool → Prop := fun _ _ _ b c => b = c
def tX (K : PySem.W.Frag) (W : WS) {β γ : Type} (R : Hp → TR → Nat → β → γ → Prop) (m : En → Mem → Res β) : L2.St → Hp → (γ → Hp → Prop) → Prop := fun σ H Q =>
  ∃ e μ α, EnR K H α μ.length e σ ∧ Rel K μ α H ∧ W.S σ H α μ.length ∧ Post K W H α μ.length R Q (m e μ)
abbrev tM (K : PySem.W.Frag) (W : WS) (m : ME) : TE := tX K W (RV K) m
abbrev tMA (K : PySem.W.Frag) (W : WS) (m : MA) : TA := tX K W (RVs K) m
abbrev tMT (K : PySem.W.Frag) (W : WS) (m : MT) : TT := tX K W RB m
/-- the state at a point, and what is wanted from there on, by the plain function's rest r -/
structure At (K : PySem.W.Frag) (W : WS) {β γ : Type} (R : Hp → TR → Nat → β → γ → Prop) (Q : γ → Hp → Prop) (e : En) (σ : L2.St) (μ : Mem) (α : TR) (H : Hp) (r : Res β) : Prop where
  en : EnR K H α μ.length e σ
  rel : Rel K μ α H
  sd : W.S σ H α μ.length
  post : Post K W H α μ.length R Q r
theorem PostX.go {K : PySem.W.Frag} {W : WS} {H H1 : Hp} {α α1 : TR} {N N1 : Nat} {C : Str} {x : D} {e : En} {μ' : Mem} (g : Go H α N H1 α1 N1) (p : PostX K W H α N C x e μ') : PostX K W H1 α1 N1 C x e μ' :=
  fun v dd σ' H' α' g' => p v dd σ' H' α' (g.trans g')
theorem Post.go {K : PySem.W.Frag} {W : WS} {H H1 : Hp} {α α1 : TR} {N N1 : Nat} {β γ : Type} {R : Hp → TR → Nat → β → γ → Prop} {Q : γ → Hp → Prop} {r : Res β} (g : Go H α N H1 α1 N1) (p : Post K W H α N R Q r) : Post K W H1 α1 N1 R Q r := by
  cases r with
  | ok d μ' => exact fun v H' α' g' => p v H' α' (g.trans g')
  | exc C x e μ' => exact PostX.go g p
  | stuck => exact p
/-- two after one another: the first -/
theorem At.bind {K : PySem.W.Frag} {W : WS} {β γ β2 γ2 : Type} {R : Hp → TR → Nat → β → γ → Prop} {R2 : Hp → TR → Nat → β2 → γ2 → Prop} {Q2 : γ2 → Hp → Prop} {Q : γ → Hp → Prop} {e : En} {σ : L2.St} {μ : Mem} {α : TR} {H : Hp} {m : En → Mem → Res β} {k : β → Mem → Res β2}
    (h : At K W R2 Q2 e σ μ α H ((m e μ).bind k))
    (hq : ∀ d μ1 v H1 α1, Go H α μ.length H1 α1 μ1.length → R H1 α1 μ1.length d v → At K W R2 Q2 e σ μ1 α1 H1 (k d μ1) → Q v H1) : tX K W R m σ H Q := by
  refine ⟨e, μ, α, h.en, h.rel, h.sd, ?_⟩
  have p := h.post
  cases q : m e μ with
  | ok d μ1 =>
    rw [q] at p
    exact fun v H1 α1 g rel r => hq d μ1 v H1 α1 g r ⟨h.en.go g, rel, W.ge g.ge h.sd, p.go g⟩
  | exc C x e' μ1 => rw [q] at p; exact p
  | stuck => rw [q] at p; exact p
theorem At.of {K : PySem.W.Frag} {W : WS} {β γ : Type} {R : Hp → TR → Nat → β → γ → Prop} {Q : γ → Hp → Prop} {σ : L2.St} {H : Hp} {m : En → Mem → Res β} (h : tX K W R m σ H Q) : ∃ e μ α, At K W R Q e σ μ α H (m e μ) :=
  let ⟨e, μ, α, a, b, c, d⟩ := h; ⟨e, μ, α, a, b, c, d⟩
/-- the end: nothing changed -/
theorem At.fin {K : PySem.W.Frag} {W : WS} {β γ : Type} {R : Hp → TR → Nat → β → γ → Prop} {Q : γ → Hp → Prop} {e : En} {σ : L2.St} {μ : Mem} {α : TR} {H : Hp} {d : β} {v : γ} (h : At K W R Q e σ μ α H (.ok d μ)) (r : R H α μ.length d v) : Q v H :=
  h.post v H α .refl h.rel r
/-- a new object that is no cell -/
theorem Go.new_obj {H : Hp} {α : TR} {N : Nat} {p : Addr} {o : HO} (hp : H p = none) (hh : p ∉ α.hid) : Go H α N (upd H p o) α N := by
  refine ⟨Nat.le_refl _, fun a u h _ => ?_, fun a h => ?_, fun _ h => .inl h, fun _ _ h => .inl h, rfl, fun a ha => upd_ne fun z => hh (by rw [← z]; exact ha)⟩
  · rw [upd_ne (ne_of_none h hp)]; exact h
  · by_cases e : a = p
    · subst e; rw [upd_same]; exact fun z => nomatch z
    · rw [upd_ne e]; exact h
theorem CellOk.go {K : PySem.W.Frag} {H H' : Hp} {α α' : TR} {N N' n : Nat} (g : Go H α N H' α' N') (ha : α'.m n = α.m n) (hk : ∀ a, α.m n = some a → H' a = H a) (hd : ∀ a dx, α.m n = some a → H dx = some (.own a) → H' dx = some (.own a)) : ∀ {c : Cell}, CellOk K H α N n c → CellOk K H' α' N' n c
  | .dead, h => ha.trans h
  | .lst ds, ⟨z, a, xs, h1, h2, h3⟩ => ⟨z, a, xs, ha.trans h1, (hk a h1).trans h2, h3.go g⟩
  | .dct kvs, ⟨a, xs, h1, h2, h3, h4⟩ => ⟨a, xs, ha.trans h1, (hk a h1).trans h2, h3, h4.go g⟩
  | .ins C fs, ⟨a, dx, xs, h1, h2, h3, h4, h5⟩ => ⟨a, dx, xs, ha.trans h1, (hk a h1).trans h2, hd a dx h1 h3, h4, h5.go g⟩
theorem CellOk.live {K : PySem.W.Frag} {H : Hp} {α : TR} {N n : Nat} {c : Cell} (h : CellOk K H α N n c) {a : Addr} (ha : α.m n = some a) : H a ≠ none := by
  cases c with
  | dead => rw [show α.m n = none from h] at ha; cases ha
  | lst ds => obtain ⟨_, b, xs, h1, h2, _⟩ := h; rw [h1] at ha; cases ha; rw [h2]; exact fun z => nomatch z
  | dct ds => obtain ⟨b, xs, h1, h2, _⟩ := h; rw [h1] at ha; cases ha; rw [h2]; exact fun z => nomatch z
  | ins C ds => obtain ⟨b, dx, xs, h1, h2, _⟩ := h; rw [h1] at ha; cases ha; rw [h2]; exact fun z => nomatch z
section
variable {K : PySem.W.Frag} {μ : Mem} {α : TR} {H : Hp} {p a : Addr} {o : HO} {n : Nat} {c : Cell}
theorem Rel.live (r : Rel K μ α H) (ha : α.m n = some a) : H a ≠ none := by
  have hl := r.dom n a ha
  exact (r.cell n μ[n] (List.getElem?_eq_getElem hl)).live ha
theorem Rel.fresh (r : Rel K μ α H) (hp : H p = none) : ¬ Lv α p := fun e => by
  rcases e with ⟨n, e⟩ | e
  · exact r.live e hp
  · obtain ⟨xs, h⟩ := r.hl p e
    rw [hp] at h; cases h
theorem Rel.nohid (r : Rel K μ α H) (hp : H p = none) : p ∉ α.hid := fun e => r.fresh hp (.inr e)
theorem Rel.new_obj (r : Rel K μ α H) (hp : H p = none) : Rel K μ α (upd H p o) :=
  ⟨r.inj, r.dom, fun n c h => (r.cell n c h).go (Go.new_obj hp (r.nohid hp)) rfl (fun a ha => upd_ne fun z => r.live ha (by rw [z]; exact hp)) fun a dx _ h => by rw [upd_ne (ne_of_none h hp)]; exact h, r.dis,
    fun a ha => let ⟨xs, h⟩ := r.hl a ha; ⟨xs, by rw [upd_ne (ne_of_none h hp)]; exact h⟩⟩
/-- a new cell -/
def addr (α : TR) (n : Nat) (p : Addr) : TR := ⟨fun m => if m = n then some p else α.m m, α.hid⟩
theorem Go.new_cell (r : Rel K μ α H) (hp : H p = none) : Go H α μ.length (upd H p o) (addr α μ.length p) (μ.length + 1) := by
  have g : Go H α μ.length (upd H p o) α μ.length := Go.new_obj hp (r.nohid hp)
  refine ⟨Nat.le_succ _, g.keep, g.there, fun a h => ?_, fun n a h => ?_, rfl, g.hk⟩
  · rcases h with ⟨n, h⟩ | h
    · unfold addr at h
      dsimp only at h
      split at h
      · cases h; exact .inr hp
      · exact .inl (.inl ⟨n, h⟩)
    · exact .inl (.inr h)
  · unfold addr at h
    dsimp only at h
    split at h
    · rename_i e
      exact .inr (by rw [e]; exact Nat.le_refl _)
    · exact .inl h
theorem Rel.new_cell (r : Rel K μ α H) (hp : H p = none) (hc : CellOk K (upd H p o) (addr α μ.length p) (μ.length + 1) μ.length c) : Rel K (μ ++ [c]) (addr α μ.length p) (upd H p o) := by
  refine ⟨fun n m a h1 h2 => ?_, fun n a h => ?_, fun n c' h => ?_, fun n a h => ?_, fun a ha => let ⟨xs, h⟩ := r.hl a ha; ⟨xs, by rw [upd_ne (ne_of_none h hp)]; exact h⟩⟩
  · unfold addr at h1 h2
    dsimp only at h1 h2
    split at h1 <;> split at h2
    · rename_i e1 e2; rw [e1, e2]
    · cases h1; exact absurd (.inl ⟨m, h2⟩) (r.fresh hp)
    · cases h2; exact absurd (.inl ⟨n, h1⟩) (r.fresh hp)
    · exact r.inj n m a h1 h2
  · unfold addr at h
    dsimp only at h
    rw [List.length_append, List.length_singleton]
    split at h
    · rename_i e; rw [e]; exact Nat.lt_succ_self _
    · exact Nat.lt_succ_of_lt (r.dom n a h)
  · rw [List.length_append, List.length_singleton]
    by_cases hlt : n < μ.length
    · rw [List.getElem?_append_left hlt] at h
      have hne : n ≠ μ.length := Nat.ne_of_lt hlt
      refine (r.cell n c' h).go (Go.new_cell r hp) (by show (if n = μ.length then some p else α.m n) = _; rw [if_neg hne]) (fun a ha => upd_ne fun z => r.live ha (by rw [z]; exact hp)) fun a dx _ h => by rw [upd_ne (ne_of_none h hp)]; exact h
    · have hge : n = μ.length := by
        have hl : n < (μ ++ [c]).length := (List.getElem?_eq_some_iff.mp h).1
        rw [List.length_append, List.length_singleton] at hl
        omega
      subst hge
      rw [List.getElem?_append_right (Nat.le_refl _), Nat.sub_self] at h
      cases h
      exact hc
  · unfold addr at h
    dsimp only at h
    split at h
    · cases h; exact r.nohid hp
    · exact r.dis n a h
/-- a live cell is written -/
theorem Go.write (r : Rel K μ α H) (ha : α.m n = some a) : Go H α μ.length (upd H a o) α μ.length := by
  refine ⟨Nat.le_refl _, fun b u h k => ?_, fun b h => ?_, fun _ h => .inl h, fun _ _ h => .inl h, rfl, fun b hb => upd_ne fun z => r.dis n a ha (by rw [← z]; exact hb)⟩
  · rw [upd_ne (fun z => k (.inl ⟨n, by rw [z]; exact ha⟩))]; exact h
  · by_cases e : b = a
    · subst e; rw [upd_same]; exact fun z => nomatch z
    · rw [upd_ne e]; exact h
theorem Rel.write (r : Rel K μ α H) (ha : α.m n = some a) (ho : ∀ x, H a ≠ some (.own x)) (hc : CellOk K (upd H a o) α μ.length n c) : Rel K (μ.set n c) α (upd H a o) := by
  refine ⟨r.inj, fun m b h => by rw [List.length_set]; exact r.dom m b h, fun m c' h => ?_, r.dis, fun b hb => let ⟨xs, h⟩ := r.hl b hb; ⟨xs, by rw [upd_ne (fun z => r.dis n a ha (by rw [← z]; exact hb))]; exact h⟩⟩
  rw [List.length_set]
  by_cases e : n = m
  · subst e
    rw [List.getElem?_set_self (r.dom _ _ ha)] at h
    cases h
    exact hc
  · rw [List.getElem?_set_ne e] at h
    refine (r.cell m c' h).go (Go.write r ha) rfl (fun b hb => upd_ne fun z => e (r.inj _ _ _ ha (by rw [← z]; exact hb))) fun b dx _ hd => ?_
    rw [upd_ne (fun z => ho b (by rw [← z]; exact hd))]; exact hd
end
end MP
end
set_option Elab.async false
set_option linter.all false
set_option maxRecDepth 100000
set_option maxHeartbeats 1000000
noncomputable section
namespace MP
open PySem PySem.Spec PyProof.Rows L2
theorem _root_.L2.PE.imp {X : Cx} {e : Expr} {t t' : TE} (h : PE X e t) (i : ∀ σ H Q, t' σ H Q → t σ H Q) : PE X e t' := ⟨fun pins s σ H Q I q => h.run pins s σ H Q I (i σ H Q q)⟩
theorem _root_.L2.PT.imp {X : Cx} {e : Expr} {t t' : TT} (h : PT X e t) (i : ∀ σ H Q, t' σ H Q → t σ H Q) : PT X e t' := ⟨fun pins s σ H Q I q => h.run pins s σ H Q I (i σ H Q q)⟩
theorem _root_.L2.PW.imp {X : Cx} {e : Expr} {t t' : TT} (h : PW X e t) (i : ∀ σ H Q, t' σ H Q → t σ H Q) : PW X e t' := ⟨fun wh pins s σ H Q I q => h.run wh pins s σ H Q I (i σ H Q q)⟩
theorem _root_.L2.PA.imp {X : Cx} {e : List Expr} {t t' : TA} (h : PA X e t) (i : ∀ σ H Q, t' σ H Q → t σ H Q) : PA X e t' := ⟨fun pos pins s σ H Q I q => h.run pos pins s σ H Q I (i σ H Q q)⟩
theorem _root_.L2.PS.imp {X : Cx} {e : Stmt} {t t' : TS} (h : PS X e t) (i : ∀ D σ H, t' D σ H → t D σ H) : PS X e t' := ⟨fun pins s σ H D I q => h.run pins s σ H D I (i D σ H q)⟩
theorem _root_.L2.PSs.imp {X : Cx} {e : List Stmt} {t t' : TS} (h : PSs X e t) (i : ∀ D σ H, t' D σ H → t D σ H) : PSs X e t' := ⟨fun pins s σ H D I q => h.run pins s σ H D I (i D σ H q)⟩
section
variable {X : Cx} {W : WS} {pos : Pos}
/-! ### names and constants -/
def mVar (i : Nat) : ME := fun e μ => match e[i]? with
  | some (some d) => .ok d μ
  | _ => .stuck
def mC (d : D) : ME := fun _ μ => .ok d μ
theorem d_var {i : Nat} {x : Str} (hN : X.N[i]? = some x) (hv : Vis X.env.scope x) (hd : (x == ("__debug__" : Str)) = false := by decide) (hcd : (x == ("__classdict__" : Str)) = false := by decide) : PE X (.Name x pos) (tM X.K W (mVar i)) :=
  (pe_var hN hv hd hcd).imp fun σ H Q h => by
    obtain ⟨e, μ, α, h⟩ := At.of h
    have h1 := h.post
    cases q : e[i]? with
    | none => simp only [mVar, q] at h1; exact h1.elim
    | some o => cases o with
      | none => simp only [mVar, q] at h1; exact h1.elim
      | some d =>
        obtain ⟨v, hv, r⟩ := h.en.2 i d q
        simp only [mVar, q] at h
        exact ⟨v, hv, h.fin r⟩
theorem d_const {e : Expr} {d : D} {v : V} (h : PE X e (tC v)) (r : ∀ H α N, Rp X.K H α N d v) : PE X e (tM X.K W (mC d)) :=
  h.imp fun σ H Q h => by
    obtain ⟨e, μ, α, h⟩ := At.of h
    exact h.fin (r _ _ _)
theorem rp_int {K : PySem.W.Frag} {H : Hp} {α : TR} {N : Nat} {i : Int} : Rp K H α N (.int i) (.int i) := by unfold Rp; rfl
theorem rp_str {K : PySem.W.Frag} {H : Hp} {α : TR} {N : Nat} {i : Str} (h : i.length ≤ sizeLine) : Rp K H α N (.str i) (.str i) := by unfold Rp; exact ⟨rfl, h⟩
theorem line_of {n : Nat} (h : n ≤ 16777216) : n ≤ sizeLine := by rw [sizeLine_eq]; exact h
theorem of_line {n : Nat} (h : n ≤ sizeLine) : n ≤ 16777216 := by rw [sizeLine_eq] at h; exact h
theorem rp_bl {K : PySem.W.Frag} {H : Hp} {α : TR} {N : Nat} {i : Bool} : Rp K H α N (.bl i) (.bl i) := by unfold Rp; rfl
theorem rp_non {K : PySem.W.Frag} {H : Hp} {α : TR} {N : Nat} : Rp K H α N .non .non := by unfold Rp; rfl
theorem rp_int_iff {K : PySem.W.Frag} {H : Hp} {α : TR} {N : Nat} {i : Int} {v : V} (h : Rp K H α N (.int i) v) : v = .int i := by unfold Rp at h; exact h
theorem rp_str_iff {K : PySem.W.Frag} {H : Hp} {α : TR} {N : Nat} {i : Str} {v : V} (h : Rp K H α N (.str i) v) : v = .str i := by unfold Rp at h; exact h.1
theorem rp_str_len {K : PySem.W.Frag} {H : Hp} {α : TR} {N : Nat} {i : Str} {v : V} (h : Rp K H α N (.str i) v) : i.length ≤ sizeLine := by unfold Rp at h; exact h.2
theorem rp_bl_iff {K : PySem.W.Frag} {H : Hp} {α : TR} {N : Nat} {i : Bool} {v : V} (h : Rp K H α N (.bl i) v) : v = .bl i := by unfold Rp at h; exact h
theorem rp_non_iff {K : PySem.W.Frag} {H : Hp} {α : TR} {N : Nat} {v : V} (h : Rp K H α N .non v) : v = .non := by unfold Rp at h; exact h
theorem d_int {i j} : PE X (.Constant (.int i) j pos) (tM X.K W (mC (.int i))) := d_const pe_int fun _ _ _ => rp_int
theorem d_str {i j} (hl : i.length ≤ 16777216 := by decide) : PE X (.Constant (.str i) j pos) (tM X.K W (mC (.str i))) := d_const pe_str fun _ _ _ => rp_str (line_of hl)
theorem d_bl {i j} : PE X (.Constant (.bool i) j pos) (tM X.K W (mC (.bl i))) := d_const pe_bl fun _ _ _ => rp_bl
theorem d_non {j} : PE X (.Constant .none j pos) (tM X.K W (mC .non)) := d_const pe_non fun _ _ _ => rp_non
/-- a module's constant -/
theorem d_gstr {x z : Str} {t : Tok} (hl : z.length ≤ 16777216) (hg : Gl X x) (hm : X.mg x = some (.str z t)) (hd : (x == ("__debug__" : Str)) = false := by decide) : PE X (.Name x pos) (tM X.K W (mC (.str z))) := d_const (pe_glob (v := .str z) hg hm ⟨_, rfl⟩ hd) fun _ _ _ => rp_str (line_of hl)
theorem d_gint {x : Str} {z : Int} {t : Tok} (hg : Gl X x) (hm : X.mg x = some (.int z t)) (hd : (x == ("__debug__" : Str)) = false := by decide) : PE X (.Name x pos) (tM X.K W (mC (.int z))) := d_const (pe_glob (v := .int z) hg hm ⟨_, rfl⟩ hd) fun _ _ _ => rp_int
/-! ### two operands -/
abbrev F2 := D → D → Mem → Res D
def mBin (f : F2) (a b : ME) : ME := fun e μ => (a e μ).bind fun x μ1 => (b e μ1).bind fun y μ2 => f x y μ2
/-- the rule r of values does what f does -/
def Does2 (K : PySem.W.Frag) (f : F2) (r : R2) : Prop := ∀ (W : WS) (Q : VK) (e : En) (σ : L2.St) (μ : Mem) (α : TR) (H : Hp) (x y : D) (v w : V), Rp K H α μ.length x v → Rp K H α μ.length y w → At K W (RV K) Q e σ μ α H (f x y μ) → r v w H Q
theorem tM_bin {f : F2} {r : R2} {K : PySem.W.Frag} {ma mb : ME} (hf : Does2 K f r) {σ : L2.St} {H : Hp} {Q : VK} (h : tM K W (mBin f ma mb) σ H Q) : tOp r (tM K W ma) (tM K W mb) σ H Q := by
  obtain ⟨e, μ, α, h⟩ := At.of h
  refine h.bind fun x μ1 v H1 α1 g1 r1 h1 => ?_
  refine h1.bind fun y μ2 w H2 α2 g2 r2 h2 => ?_
  exact hf W Q e σ μ2 α2 H2 x y v w (Rp.go g2 r1) r2 h2
theorem d_op {op : Operator} {f : F2} {r : R2} {a b : Expr} {ma mb : ME} (ho : OpR X (binaryOp op) r) (hf : Does2 X.K f r) (ha : PE X a (tM X.K W ma)) (hb : PE X b (tM X.K W mb)) : PE X (.BinOp a op b pos) (tM X.K W (mBin f ma mb)) :=
  (pe_op ho ha hb).imp fun σ H Q h => tM_bin hf h
theorem d_cmp {op : CmpOp} {f : F2} {r : R2} {a b : Expr} {ma mb : ME} (ho : OpR X (compareOp op) r) (hf : Does2 X.K f r) (ha : PE X a (tM X.K W ma)) (hb : PE X b (tM X.K W mb)) (hm : behindInMarks op b = false := by rfl) : PE X (.Compare a [op] [b] pos) (tM X.K W (mBin f ma mb)) :=
  (pe_cmpR ho ha hb hm).imp fun σ H Q h => tM_bin hf h
theorem Does2.or {K : PySem.W.Frag} {f : F2} {r r' : R2} (h : ∀ (W : WS) (Q : VK) (e : En) (σ : L2.St) (μ : Mem) (α : TR) (H : Hp) (x y : D) (v w : V), Rp K H α μ.length x v → Rp K H α μ.length y w → At K W (RV K) Q e σ μ α H (f x y μ) → r v w H Q ∨ r' v w H Q) : Does2 K f (fun x y H Q => r x y H Q ∨ r' x y H Q) := h
/-! ints -/
open Classical in
def fI (C : Int → Int → Prop) (g : Int → Int → D) : F2 := fun x y μ => match x, y with
  | .int i, .int j => if C i j then .ok (g i j) μ else .stuck
  | _, _ => .stuck
def fI0 (g : Int → Int → D) : F2 := fun x y μ => match x, y with
  | .int i, .int j => .ok (g i j) μ
  | _, _ => .stuck
theorem does_I {K : PySem.W.Frag} {C : Int → Int → Prop} {g : Int → Int → D} {g' : Int → Int → V} (hg : ∀ i j H α N, Rp K H α N (g i j) (g' i j)) : Does2 K (fI C g) (rI C g') := by
  intro W Q e σ μ α H x y v w rx ry h
  unfold fI at h
  split at h
  · rename_i i j
    split at h
    · rename_i c
      exact ⟨i, j, rp_int_iff rx, rp_int_iff ry, c, h.fin (hg _ _ _ _ _)⟩
    · exact h.post.elim
  · exact h.post.elim
theorem does_I0 {K : PySem.W.Frag} {g : Int → Int → D} {g' : Int → Int → V} (hg : ∀ i j H α N, Rp K H α N (g i j) (g' i j)) : Does2 K (fI0 g) (rI0 g') := by
  intro W Q e σ μ α H x y v w rx ry h
  unfold fI0 at h
  split at h
  · rename_i i j
    exact ⟨i, j, rp_int_iff rx, rp_int_iff ry, h.fin (hg _ _ _ _ _)⟩
  · exact h.post.elim

theorem does_or {K : PySem.W.Frag} {f g : F2} {r r' : R2} (hf : Does2 K f r) (hg : Does2 K g r') (c : D → D → Mem → Bool) : Does2 K (fun x y μ => if c x y μ = true then f x y μ else g x y μ) (fun x y H Q => r x y H Q ∨ r' x y H Q) := by
  intro W Q e σ μ α H x y v w rx ry h
  cases q : c x y μ with
  | true => simp only [q, if_true] at h; exact .inl (hf W Q e σ μ α H x y v w rx ry h)
  | false => simp only [q, Bool.false_eq_true, if_false] at h; exact .inr (hg W Q e σ μ α H x y v w rx ry h)
def fMul : F2 := fI (fun i j => CMul i j ∨ CMulW i j) fun i j => .int (i * j)
theorem op_mulA : OpR X (binaryOp .Mult) (rI (fun i j => CMul i j ∨ CMulW i j) fun i j => .int (i * j)) := opI fun _ _ _ _ _ _ _ hc q => mul_int q (hc.elim (fun z => z.ok) fun z => z.ok)
def fDiv : F2 := fI (fun _ j => 0 < j ∧ j.natAbs.log2 < 9000) fun i j => .int (i / j)
def fMod : F2 := fI (fun _ j => 0 < j) fun i j => .int (i % j)
def CPowA (i j : Int) : Prop := 0 ≤ j ∧ (Builtin.Int.intBits i : Int) * j ≤ 2 ^ 27
def fPow : F2 := fI CPowA fun i j => .int (i ^ j.toNat)
theorem op_powA : OpR X (binaryOp .Pow) (rI CPowA fun i j => .int (i ^ j.toNat)) := opI fun _ _ _ _ _ _ _ hc q => PyProof.Rows.pow_int hc.1 hc.2 q
def fSub : F2 := fI0 fun i j => .int (i - j)
def fLt : F2 := fI0 fun i j => .bl (decide (i < j))
def fLe : F2 := fI0 fun i j => .bl (decide (i ≤ j))
def fGt : F2 := fI0 fun i j => .bl (decide (j < i))
def fGe : F2 := fI0 fun i j => .bl (decide (j ≤ i))
variable {a b : Expr} {ma mb : ME}
theorem d_sub (ha : PE X a (tM X.K W ma)) (hb : PE X b (tM X.K W mb)) : PE X (.BinOp a .Sub b pos) (tM X.K W (mBin fSub ma mb)) := d_op op_sub (does_I0 fun _ _ _ _ _ => rp_int) ha hb
theorem d_mod (ha : PE X a (tM X.K W ma)) (hb : PE X b (tM X.K W mb)) : PE X (.BinOp a .Mod b pos) (tM X.K W (mBin fMod ma mb)) := d_op op_mod (does_I fun _ _ _ _ _ => rp_int) ha hb
theorem d_fdiv (ha : PE X a (tM X.K W ma)) (hb : PE X b (tM X.K W mb)) : PE X (.BinOp a .FloorDiv b pos) (tM X.K W (mBin fDiv ma mb)) := d_op op_fdivW (does_I fun _ _ _ _ _ => rp_int) ha hb
theorem d_pow (ha : PE X a (tM X.K W ma)) (hb : PE X b (tM X.K W mb)) : PE X (.BinOp a .Pow b pos) (tM X.K W (mBin fPow ma mb)) := d_op op_powA (does_I fun _ _ _ _ _ => rp_int) ha hb
theorem d_lt (ha : PE X a (tM X.K W ma)) (hb : PE X b (tM X.K W mb)) : PE X (.Compare a [.Lt] [b] pos) (tM X.K W (mBin fLt ma mb)) := d_cmp op_lt (does_I0 fun _ _ _ _ _ => rp_bl) ha hb (nomark _)
theorem d_le (ha : PE X a (tM X.K W ma)) (hb : PE X b (tM X.K W mb)) : PE X (.Compare a [.LtE] [b] pos) (tM X.K W (mBin fLe ma mb)) := d_cmp op_le (does_I0 fun _ _ _ _ _ => rp_bl) ha hb (nomark _)
theorem d_gt (ha : PE X a (tM X.K W ma)) (hb : PE X b (tM X.K W mb)) : PE X (.Compare a [.Gt] [b] pos) (tM X.K W (mBin fGt ma mb)) := d_cmp op_gt (does_I0 fun _ _ _ _ _ => rp_bl) ha hb (nomark _)
theorem d_ge (ha : PE X a (tM X.K W ma)) (hb : PE X b (tM X.K W mb)) : PE X (.Compare a [.GtE] [b] pos) (tM X.K W (mBin fGe ma mb)) := d_cmp op_ge (does_I0 fun _ _ _ _ _ => rp_bl) ha hb (nomark _)
/-! ### lists as they stand -/
/-- the items of a list -/
def viewL (μ : Mem) : D → Option (List D)
  | .lst ds => some ds
  | .ref n => match μ[n]? with
    | some (.lst ds) => some ds
    | _ => none
  | _ => none
def viewT : D → Option (List D)
  | .tup ds => some ds
  | _ => none
theorem viewL_at {K : PySem.W.Frag} {μ : Mem} {α : TR} {H : Hp} {d : D} {v : V} {ds : List D} (R : Rel K μ α H) (r : Rp K H α μ.length d v) (h : viewL μ d = some ds) :
    ∃ a xs, v = .ref a ∧ H a = some (.lst xs) ∧ Rps K H α μ.length ds xs ∧ ds.length ≤ sizeLine := by
  unfold viewL at h
  split at h
  · cases h
    unfold Rp at r
    obtain ⟨z, a, xs, e, f, r⟩ := r
    exact ⟨a, xs, e, f.1, r, z⟩
  · rename_i n
    split at h
    · rename_i es q
      cases h
      obtain ⟨z, a, xs, h1, h2, h3⟩ := R.cell n _ q
      unfold Rp at r
      exact ⟨a, xs, r.2 a h1, h2, h3, z⟩
    · cases h
  · cases h
theorem viewT_at {K : PySem.W.Frag} {N : Nat} {α : TR} {H : Hp} {d : D} {v : V} {ds : List D} (r : Rp K H α N d v) (h : viewT d = some ds) :
    ∃ a xs, v = .ref a ∧ SqT K H a xs ∧ Rps K H α N ds xs ∧ ds.length ≤ sizeLine := by
  unfold viewT at h
  split at h
  · cases h
    unfold Rp at r
    obtain ⟨z, a, xs, e, f, r⟩ := r
    exact ⟨a, xs, e, f.sq, r, z⟩
  · cases h
/-- a new list, a new tuple that nobody changes -/
theorem At.lst {K : PySem.W.Frag} {W : WS} {Q : VK} {e : En} {σ : L2.St} {μ : Mem} {α : TR} {H : Hp} {ds : List D} {xs : List V} {p : Addr} (h : At K W (RV K) Q e σ μ α H (.ok (.lst ds) μ)) (r : Rps K H α μ.length ds xs) (hz : ds.length ≤ sizeLine) (hp : H p = none) : Q (.ref p) (upd H p (.lst xs)) := by
  refine h.post _ _ α (Go.new_obj hp (h.rel.nohid hp)) (h.rel.new_obj hp) ?_
  show Rp _ _ _ _ _ _
  unfold Rp
  exact ⟨hz, p, xs, rfl, ⟨upd_same, h.rel.fresh hp⟩, r.go (Go.new_obj hp (h.rel.nohid hp))⟩
theorem At.tup {K : PySem.W.Frag} {W : WS} {Q : VK} {e : En} {σ : L2.St} {μ : Mem} {α : TR} {H : Hp} {ds : List D} {xs : List V} {p : Addr} (h : At K W (RV K) Q e σ μ α H (.ok (.tup ds) μ)) (r : Rps K H α μ.length ds xs) (hz : ds.length ≤ sizeLine) (hp : H p = none) : Q (.ref p) (upd H p (.tup xs)) := by
  refine h.post _ _ α (Go.new_obj hp (h.rel.nohid hp)) (h.rel.new_obj hp) ?_
  show Rp _ _ _ _ _ _
  unfold Rp
  exact ⟨hz, p, xs, rfl, .inl ⟨.inl upd_same, h.rel.fresh hp⟩, r.go (Go.new_obj hp (h.rel.nohid hp))⟩
theorem At.cell {K : PySem.W.Frag} {W : WS} {Q : VK} {e : En} {σ : L2.St} {μ : Mem} {α : TR} {H : Hp} {c : Cell} {o : HO} {p : Addr} (h : At K W (RV K) Q e σ μ α H (.ok (.ref μ.length) (μ ++ [c]))) (hp : H p = none) (hc : CellOk K (upd H p o) (addr α μ.length p) (μ.length + 1) μ.length c) : Q (.ref p) (upd H p o) := by
  have hl : (μ ++ [c]).length = μ.length + 1 := by rw [List.length_append, List.length_singleton]
  refine h.post _ _ (addr α μ.length p) (by rw [hl]; exact Go.new_cell h.rel hp) (h.rel.new_cell hp hc) ?_
  show Rp _ _ _ _ _ _
  unfold Rp
  rw [hl]
  refine ⟨Nat.lt_succ_self _, fun a e => ?_⟩
  have e : (if μ.length = μ.length then some p else α.m μ.length) = some a := e
  rw [if_pos rfl] at e
  cases e
  rfl
theorem cell_lst {K : PySem.W.Frag} {H : Hp} {α : TR} {N n : Nat} {p : Addr} {xs : List V} {ds : List D} (hz : ds.length ≤ sizeLine) (r : Rps K H α N ds xs) (g : Go H α N (upd H p (.lst xs)) (addr α n p) (N + 1)) : CellOk K (upd H p (.lst xs)) (addr α n p) (N + 1) n (.lst ds) :=
  ⟨hz, p, xs, by show (if n = n then some p else α.m n) = _; rw [if_pos rfl], upd_same, r.go g⟩
theorem At.newc {K : PySem.W.Frag} {W : WS} {Q : VK} {e : En} {σ : L2.St} {μ : Mem} {α : TR} {H : Hp} {ds : List D} {xs : List V} {p : Addr} (h : At K W (RV K) Q e σ μ α H (.ok (.ref μ.length) (μ ++ [.lst ds]))) (r : Rps K H α μ.length ds xs) (hz : ds.length ≤ sizeLine) (hp : H p = none) : Q (.ref p) (upd H p (.lst xs)) :=
  h.cell hp (cell_lst hz r (Go.new_cell h.rel hp))
/-! ### + -/
open Classical in
def fAdd : F2 := fun x y μ => match x, y with
  | .int i, .int j => .ok (.int (i + j)) μ
  | .str i, .str j => if i.length + j.length ≤ sizeLine then .ok (.str (i ++ j)) μ else .stuck
  | .tup xs, .tup ys => if xs.length + ys.length ≤ sizeLine then .ok (.tup (xs ++ ys)) μ else .stuck
  | x, y => match viewL μ x, viewL μ y with
    | some xs, some ys => if xs.length + ys.length ≤ sizeLine then .ok (.lst (xs ++ ys)) μ else .stuck
    | _, _ => .stuck
theorem len_app {i j : Str} (h : i.length + j.length ≤ sizeLine) : (i ++ j).length ≤ sizeLine := by
  have e : (i ++ j).length = i.length + j.length := by
    show (i.cps ++ j.cps).size = _
    rw [Array.size_append]; rfl
  rw [e]; exact h
theorem does_add {K : PySem.W.Frag} : Does2 K fAdd (fun x y H Q => rI0 (fun i j => .int (i + j)) x y H Q ∨ (fun x y H Q => ∃ i j, x = V.str i ∧ y = V.str j ∧ i.length + j.length ≤ sizeLine ∧ Q (.str (i ++ j)) H) x y H Q ∨ rCatA K x y H Q ∨ rCat x y H Q) := by
  intro W Q e σ μ α H x y v w rx ry h
  unfold fAdd at h
  split at h
  · rename_i i j
    exact .inl ⟨i, j, rp_int_iff rx, rp_int_iff ry, h.fin rp_int⟩
  · rename_i i j
    split at h
    · rename_i c
      exact .inr (.inl ⟨i, j, rp_str_iff rx, rp_str_iff ry, c, h.fin (rp_str (len_app c))⟩)
    · exact h.post.elim
  · rename_i xs ys
    split at h
    · rename_i c
      obtain ⟨p, vs, rfl, hp, rp, _⟩ := viewT_at (ds := xs) rx rfl
      obtain ⟨q, us, rfl, hq, rq, _⟩ := viewT_at (ds := ys) ry rfl
      refine .inr (.inr (.inl ⟨p, q, vs, us, rfl, rfl, hp, hq, by rw [rp.length, rq.length]; exact c, fun z => ?_, fun _ z => ?_, fun _ _ t ht => ?_⟩))
      · have e1 : xs = [] := List.length_eq_zero_iff.mp (by rw [← rp.length, z]; rfl)
        subst e1
        exact h.fin ry
      · have e1 : ys = [] := List.length_eq_zero_iff.mp (by rw [← rq.length, z]; rfl)
        subst e1
        rw [List.append_nil] at h
        exact h.fin rx
      · exact h.tup (rp.append rq) (by rw [List.length_append]; exact c) ht
    · exact h.post.elim
  · split at h
    · rename_i xs ys q1 q2
      split at h
      · rename_i c
        obtain ⟨p, vs, rfl, hp, rp, _⟩ := viewL_at h.rel rx q1
        obtain ⟨q, us, rfl, hq, rq, _⟩ := viewL_at h.rel ry q2
        refine .inr (.inr (.inr ⟨p, q, vs, us, rfl, rfl, hp, hq, by rw [rp.length, rq.length]; exact c, fun t ht => ?_⟩))
        exact h.lst (rp.append rq) (by rw [List.length_append]; exact c) ht
      · exact h.post.elim
    · exact h.post.elim
theorem d_add (ha : PE X a (tM X.K W ma)) (hb : PE X b (tM X.K W mb)) : PE X (.BinOp a .Add b pos) (tM X.K W (mBin fAdd ma mb)) :=
  d_op (op_add.or (op_add_str.or (op_catA.or op_cat))) does_add ha hb

/-! ### == and != -/
def toV : D → Option V
  | .non => some .non
  | .bl b => some (.bl b)
  | .int i => some (.int i)
  | .str x => some (.str x)
  | _ => none
theorem toV_at {K : PySem.W.Frag} {H : Hp} {α : TR} {N : Nat} {d : D} {v w : V} (r : Rp K H α N d v) (h : toV d = some w) : v = w := by
  unfold toV at h
  split at h <;> first | cases h | skip
  · exact rp_non_iff r
  · exact rp_bl_iff r
  · exact rp_int_iff r
  · exact rp_str_iff r
/-- the data that a value is -/
def dat : Nat → Mem → D → Option PyData
  | 0, _, _ => none
  | _ + 1, _, .non => some .none
  | _ + 1, _, .bl b => some (.bool b)
  | _ + 1, _, .int i => some (.int i)
  | _ + 1, _, .str x => some (.str x)
  | k + 1, μ, .tup ds => (ds.mapM (dat k μ)).map .tuple
  | k + 1, μ, .lst ds => (ds.mapM (dat k μ)).map .list
  | _ + 1, _, .scr _ => none
  | k + 1, μ, .ref n => match μ[n]? with
    | some (.lst ds) => (ds.mapM (dat k μ)).map .list
    | _ => none
theorem dats_at {K : PySem.W.Frag} {μ : Mem} {α : TR} {H : Hp} {k : Nat} (ih : ∀ (d : D) (v : V) (p : PyData), Rp K H α μ.length d v → dat k μ d = some p → Dp K H v p) : ∀ (ds : List D) (vs : List V) (ps : List PyData), Rps K H α μ.length ds vs → ds.mapM (dat k μ) = some ps → DpAll K H vs ps
  | [], vs, ps, r, h => by
    rw [Rps.nil_inv r]
    simp at h
    subst h
    exact .nil
  | d :: ds, vs, ps, r, h => by
    obtain ⟨v, us, rfl, r1, r2⟩ := Rps.cons_inv r
    rw [List.mapM_cons] at h
    cases q : dat k μ d with
    | none => rw [q] at h; simp at h
    | some p =>
      rw [q] at h
      cases q2 : ds.mapM (dat k μ) with
      | none => rw [q2] at h; simp at h
      | some qs =>
        rw [q2] at h
        simp at h
        subst h
        exact .cons (ih d v p r1 q) (dats_at ih ds us qs r2 q2)
theorem dat_at {K : PySem.W.Frag} {μ : Mem} {α : TR} {H : Hp} (R : Rel K μ α H) : ∀ (k : Nat) (d : D) (v : V) (p : PyData), Rp K H α μ.length d v → dat k μ d = some p → Dp K H v p
  | 0, _, _, _, _, h => by unfold dat at h; cases h
  | k + 1, .non, v, p, r, h => by unfold dat at h; cases h; rw [rp_non_iff r]; exact .non
  | k + 1, .bl _, v, p, r, h => by unfold dat at h; cases h; rw [rp_bl_iff r]; exact .bl _
  | k + 1, .int _, v, p, r, h => by unfold dat at h; cases h; rw [rp_int_iff r]; exact .int _
  | k + 1, .str _, v, p, r, h => by unfold dat at h; cases h; rw [rp_str_iff r]; exact .str _
  | k + 1, .scr _, v, p, r, h => by unfold dat at h; cases h
  | k + 1, .tup ds, v, p, r, h => by
    unfold dat at h
    obtain ⟨ps, h1, rfl⟩ := Option.map_eq_some_iff.mp h
    obtain ⟨a, xs, rfl, ha, r2, _⟩ := viewT_at (ds := ds) r rfl
    exact .tup ha (dats_at (dat_at R k) ds xs ps r2 h1)
  | k + 1, .lst ds, v, p, r, h => by
    unfold dat at h
    obtain ⟨ps, h1, rfl⟩ := Option.map_eq_some_iff.mp h
    obtain ⟨a, xs, rfl, ha, r2, _⟩ := viewL_at (ds := ds) R r rfl
    exact .lst (.of ha) (dats_at (dat_at R k) ds xs ps r2 h1)
  | k + 1, .ref n, v, p, r, h => by
    unfold dat at h
    split at h
    · rename_i ds q
      obtain ⟨ps, h1, rfl⟩ := Option.map_eq_some_iff.mp h
      obtain ⟨a, xs, rfl, ha, r2, _⟩ := viewL_at (ds := ds) R r (by simp only [viewL, q])
      exact .lst (.of ha) (dats_at (dat_at R k) ds xs ps r2 h1)
    · cases h
def scalD (x y : D) : Option Bool := match toV x, toV y with
  | some v, some w => if scal v w = true then some (decide (v = w)) else none
  | _, _ => none
def eqD (x y : D) (μ : Mem) : Option Bool := match scalD x y with
  | some b => some b
  | none => match dat 40 μ x, dat 40 μ y with
    | some p, some q => if (SeqAt.shaped p && SeqAt.shaped q) = true then some (PyData.eqv p q) else none
    | _, _ => none
def fEq : F2 := fun x y μ => match eqD x y μ with
  | some b => .ok (.bl b) μ
  | none => .stuck
def fNe : F2 := fun x y μ => match eqD x y μ with
  | some b => .ok (.bl (!b)) μ
  | none => .stuck
theorem eqD_at {K : PySem.W.Frag} {μ : Mem} {α : TR} {H : Hp} (R : Rel K μ α H) {x y : D} {v w : V} {b : Bool} (rx : Rp K H α μ.length x v) (ry : Rp K H α μ.length y w) (h : eqD x y μ = some b) :
    (scal v w = true ∧ b = decide (v = w)) ∨ ∃ p q, Dp K H v p ∧ Dp K H w q ∧ SeqAt.shaped p = true ∧ SeqAt.shaped q = true ∧ b = PyData.eqv p q := by
  unfold eqD at h
  split at h
  · rename_i b' q
    cases h
    unfold scalD at q
    split at q
    · rename_i v' w' e1 e2
      rw [toV_at rx e1, toV_at ry e2]
      split at q
      · rename_i c
        cases q
        exact .inl ⟨c, rfl⟩
      · cases q
    · cases q
  · split at h
    · rename_i p q e1 e2
      split at h
      · rename_i c
        cases h
        obtain ⟨c1, c2⟩ := Bool.and_eq_true_iff.mp c
        exact .inr ⟨p, q, dat_at R _ _ _ _ rx e1, dat_at R _ _ _ _ ry e2, c1, c2, rfl⟩
      · cases h
    · cases h
theorem does_eq {K : PySem.W.Frag} : Does2 K fEq (fun x y H Q => rEq x y H Q ∨ rEqD K x y H Q) := by
  intro W Q e σ μ α H x y v w rx ry h
  unfold fEq at h
  split at h
  · rename_i b q
    have q2 := h.fin rp_bl
    rcases eqD_at h.rel rx ry q with ⟨c, rfl⟩ | ⟨p1, q1, h1, h2, h3, h4, rfl⟩
    · exact .inl ⟨c, q2⟩
    · exact .inr ⟨p1, q1, h1, h2, h3, h4, q2⟩
  · exact h.post.elim
theorem does_ne {K : PySem.W.Frag} : Does2 K fNe (fun x y H Q => rNe x y H Q ∨ rNeD K x y H Q) := by
  intro W Q e σ μ α H x y v w rx ry h
  unfold fNe at h
  split at h
  · rename_i b q
    have q2 := h.fin rp_bl
    rcases eqD_at h.rel rx ry q with ⟨c, rfl⟩ | ⟨p1, q1, h1, h2, h3, h4, rfl⟩
    · exact .inl ⟨c, q2⟩
    · exact .inr ⟨p1, q1, h1, h2, h3, h4, q2⟩
  · exact h.post.elim
/-! ### in -/
def flatD (x : D) : Bool := (toV x).isSome
/-- the value, where it is flat -/
def flV (x : D) : V := (toV x).getD .non
def viewS (μ : Mem) (d : D) : Option (List D) := match viewT d with
  | some ds => some ds
  | none => viewL μ d
def inD (x y : D) (μ : Mem) : Option Bool := match x, y with
  | .str z, .str t => match z.cps.toList with
    | [c] => some (decide (c ∈ t.cps.toList))
    | _ => none
  | x, y => match viewS μ y with
    | none => none
    | some ds => if (flatD x && ds.all flatD) = true then some (inV (flV x) (ds.map flV)) else
      match dat 40 μ x, dat 40 μ y with
      | some p, some (.list qs) => if (SeqAt.shaped p && SeqAt.shaped (.list qs)) = true then some (qs.any fun z => PyData.eqv z p) else none
      | _, _ => none
theorem toV_flat {x : D} {v : V} (h : toV x = some v) : flatV v = true := by
  unfold toV at h
  split at h <;> first | (cases h; rfl) | cases h
theorem flV_at {K : PySem.W.Frag} {H : Hp} {α : TR} {N : Nat} {d : D} {v : V} (r : Rp K H α N d v) (h : flatD d = true) : v = flV d ∧ flatV v = true := by
  unfold flatD at h
  obtain ⟨w, e⟩ := Option.isSome_iff_exists.mp h
  have := toV_at r e
  subst this
  exact ⟨by unfold flV; rw [e]; rfl, toV_flat e⟩
theorem flVs_at {K : PySem.W.Frag} {H : Hp} {α : TR} {N : Nat} : ∀ {ds : List D} {vs : List V}, Rps K H α N ds vs → ds.all flatD = true → vs = ds.map flV ∧ vs.all flatV = true
  | [], vs, r, _ => by rw [Rps.nil_inv r]; exact ⟨rfl, rfl⟩
  | d :: ds, vs, r, h => by
    obtain ⟨v, us, rfl, r1, r2⟩ := Rps.cons_inv r
    rw [List.all_cons] at h
    obtain ⟨h1, h2⟩ := Bool.and_eq_true_iff.mp h
    obtain ⟨e1, f1⟩ := flV_at r1 h1
    obtain ⟨e2, f2⟩ := flVs_at r2 h2
    refine ⟨by rw [List.map_cons, ← e1, ← e2], by rw [List.all_cons, f1, f2]; rfl⟩
theorem viewS_at {K : PySem.W.Frag} {μ : Mem} {α : TR} {H : Hp} {d : D} {v : V} {ds : List D} (R : Rel K μ α H) (r : Rp K H α μ.length d v) (h : viewS μ d = some ds) :
    ∃ a xs, v = .ref a ∧ (SqL K H a xs ∨ SqT K H a xs) ∧ Rps K H α μ.length ds xs ∧ ds.length ≤ sizeLine := by
  unfold viewS at h
  split at h
  · rename_i es q
    cases h
    obtain ⟨a, xs, e, h1, h2, h3⟩ := viewT_at r q
    exact ⟨a, xs, e, .inr h1, h2, h3⟩
  · obtain ⟨a, xs, e, h1, h2, h3⟩ := viewL_at R r h
    exact ⟨a, xs, e, .inl (.of h1), h2, h3⟩
def rSign (neg : Bool) : R2 := fun x y H Q => ∃ (c : Nat) (z : Str), x = .str ⟨#[c]⟩ ∧ y = .str z ∧ Q (.bl (if neg = true then !decide (c ∈ z.cps.toList) else decide (c ∈ z.cps.toList))) H
def rInDb (K : PySem.W.Frag) (neg : Bool) : R2 := fun x y H Q => ∃ d ds, Dp K H x d ∧ Dp K H y (.list ds) ∧ SeqAt.shaped d = true ∧ SeqAt.shaped (.list ds) = true ∧ Q (.bl (if neg = true then !ds.any fun z => PyData.eqv z d else ds.any fun z => PyData.eqv z d)) H
def fIn (neg : Bool) : F2 := fun x y μ => match inD x y μ with
  | some b => .ok (.bl (if neg = true then !b else b)) μ
  | none => .stuck
theorem str_of_list {z : Str} {l : List Nat} (h : z.cps.toList = l) : z = ⟨l.toArray⟩ := by
  obtain ⟨⟨x⟩⟩ := z
  have h' : x = l := h
  rw [h']
theorem does_in {K : PySem.W.Frag} (neg : Bool) : Does2 K (fIn neg) (fun x y H Q => rSign neg x y H Q ∨ rIn K neg x y H Q ∨ rInDb K neg x y H Q) := by
  intro W Q e σ μ α H x y v w rx ry h
  unfold fIn at h
  split at h
  · rename_i b q
    have fin := h.fin rp_bl
    unfold inD at q
    split at q
    · rename_i z t
      split at q
      · rename_i c hz
        cases q
        have ez := str_of_list hz
        subst ez
        exact .inl ⟨c, t, rp_str_iff rx, rp_str_iff ry, fin⟩
      · cases q
    · split at q
      · cases q
      · rename_i ds hv
        split at q
        · rename_i c
          cases q
          obtain ⟨c1, c2⟩ := Bool.and_eq_true_iff.mp c
          obtain ⟨a, xs, rfl, hs, r2, _⟩ := viewS_at h.rel ry hv
          obtain ⟨e1, f1⟩ := flV_at rx c1
          obtain ⟨e2, f2⟩ := flVs_at r2 c2
          subst e1 e2
          exact .inr (.inl ⟨a, _, rfl, hs, f1, f2, fin⟩)
        · split at q
          · rename_i p qs e1 e2
            split at q
            · rename_i c
              cases q
              obtain ⟨c1, c2⟩ := Bool.and_eq_true_iff.mp c
              exact .inr (.inr ⟨p, qs, dat_at h.rel _ _ _ _ rx e1, dat_at h.rel _ _ _ _ ry e2, c1, c2, fin⟩)
            · cases q
          · cases q
  · exact h.post.elim
/-! ### is None -/
def isNonD (μ : Mem) : D → Option Bool
  | .non => some true
  | .ref n => match μ[n]? with
    | some .dead => none
    | none => none
    | _ => some false
  | _ => some false
theorem live_at {K : PySem.W.Frag} {μ : Mem} {α : TR} {H : Hp} {n : Nat} {v : V} {c : Cell} (R : Rel K μ α H) (r : Rp K H α μ.length (.ref n) v) (h : μ[n]? = some c) (hc : c ≠ .dead) : ∃ a, α.m n = some a ∧ v = .ref a := by
  have z := R.cell n c h
  unfold Rp at r
  cases c with
  | dead => exact absurd rfl hc
  | lst ds => obtain ⟨_, a, xs, h1, _⟩ := z; exact ⟨a, h1, r.2 a h1⟩
  | dct ds => obtain ⟨a, xs, h1, _⟩ := z; exact ⟨a, h1, r.2 a h1⟩
  | ins C ds => obtain ⟨a, dx, xs, h1, _⟩ := z; exact ⟨a, h1, r.2 a h1⟩
theorem isNon_at {K : PySem.W.Frag} {μ : Mem} {α : TR} {H : Hp} {d : D} {v : V} {b : Bool} (R : Rel K μ α H) (r : Rp K H α μ.length d v) (h : isNonD μ d = some b) : b = decide (v = .non) := by
  cases d with
  | non => cases h; rw [rp_non_iff r]; rfl
  | bl _ => cases h; rw [rp_bl_iff r]; rfl
  | int _ => cases h; rw [rp_int_iff r]; rfl
  | str _ => cases h; rw [rp_str_iff r]; rfl
  | tup ds => cases h; obtain ⟨a, xs, rfl, _⟩ := viewT_at (ds := ds) r rfl; rfl
  | lst ds => cases h; obtain ⟨a, xs, rfl, _⟩ := viewL_at (ds := ds) R r rfl; rfl
  | scr ns => cases h; unfold Rp at r; obtain ⟨a, rfl, _⟩ := r; rfl
  | ref n =>
    unfold isNonD at h
    dsimp only at h
    split at h
    · cases h
    · cases h
    · rename_i c e1 e2
      cases q : μ[n]? with
      | none => exact absurd q e2
      | some c =>
        cases h
        obtain ⟨a, _, rfl⟩ := live_at R r q (fun z => e1 (by rw [q, z]))
        rfl
def fIs (neg : Bool) : F2 := fun x y μ => match y with
  | .non => match isNonD μ x with
    | some b => .ok (.bl (if neg = true then !b else b)) μ
    | none => .stuck
  | _ => .stuck
theorem does_is {K : PySem.W.Frag} : Does2 K (fIs false) (fun x y H Q => y = .non ∧ Q (.bl (decide (x = .non))) H) := by
  intro W Q e σ μ α H x y v w rx ry h
  unfold fIs at h
  split at h
  · split at h
    · rename_i b q
      rw [isNon_at h.rel rx q] at h
      exact ⟨rp_non_iff ry, h.fin rp_bl⟩
    · exact h.post.elim
  · exact h.post.elim
theorem does_isnot {K : PySem.W.Frag} : Does2 K (fIs true) (fun x y H Q => y = .non ∧ Q (.bl (!decide (x = .non))) H) := by
  intro W Q e σ μ α H x y v w rx ry h
  unfold fIs at h
  split at h
  · split at h
    · rename_i b q
      rw [isNon_at h.rel rx q] at h
      exact ⟨rp_non_iff ry, h.fin rp_bl⟩
    · exact h.post.elim
  · exact h.post.elim
end
end MP
end
set_option Elab.async false
set_option linter.all false
set_option maxRecDepth 100000
set_option maxHeartbeats 1000000
noncomputable section
namespace MP
open PySem PySem.Spec PyProof.Rows L2
section
variable {X : Cx} {W : WS} {pos : Pos} {a b c : Expr} {ma mb mc : ME} {es : List Expr} {ms : MA}
theorem d_eq (ha : PE X a (tM X.K W ma)) (hb : PE X b (tM X.K W mb)) (hu : X.A.units + 64 < cLine) : PE X (.Compare a [.Eq] [b] pos) (tM X.K W (mBin fEq ma mb)) := d_cmp (op_eq.or (op_eqD hu)) does_eq ha hb (nomark _)
theorem d_ne (ha : PE X a (tM X.K W ma)) (hb : PE X b (tM X.K W mb)) (hu : X.A.units + 64 < cLine) : PE X (.Compare a [.NotEq] [b] pos) (tM X.K W (mBin fNe ma mb)) := d_cmp (op_ne.or (op_neD hu)) does_ne ha hb (nomark _)
theorem op_inA (neg : Bool) (hu : X.A.units + 65 < cLine) : OpR X (compareOp (if neg = true then .NotIn else .In)) (fun x y H Q => rSign neg x y H Q ∨ rIn X.K neg x y H Q ∨ rInDb X.K neg x y H Q) := by
  cases neg with
  | false =>
    refine OpR.or ?_ (OpR.or op_in_seq ?_)
    · intro pins s σ H x y v u Q I rx ry h
      obtain ⟨c, z, e1, e2, q⟩ := h
      exact op_in_sign pins s σ H x y v u Q I rx ry ⟨c, z, e1, e2, q⟩
    · intro pins s σ H x y v u Q I rx ry h
      obtain ⟨d, ds, h1, h2, h3, h4, q⟩ := h
      exact op_inD hu pins s σ H x y v u Q I rx ry ⟨d, ds, h1, h2, h3, h4, q⟩
  | true =>
    refine OpR.or ?_ (OpR.or op_notIn_seq ?_)
    · intro pins s σ H x y v u Q I rx ry h
      obtain ⟨c, z, e1, e2, q⟩ := h
      exact op_notIn_sign pins s σ H x y v u Q I rx ry ⟨c, z, e1, e2, q⟩
    · intro pins s σ H x y v u Q I rx ry h
      obtain ⟨d, ds, h1, h2, h3, h4, q⟩ := h
      exact op_notInD hu pins s σ H x y v u Q I rx ry ⟨d, ds, h1, h2, h3, h4, q⟩
theorem d_isin (ha : PE X a (tM X.K W ma)) (hb : PE X b (tM X.K W mb)) (hu : X.A.units + 65 < cLine) (hm : behindInMarks .In b = false := by rfl) : PE X (.Compare a [.In] [b] pos) (tM X.K W (mBin (fIn false) ma mb)) := d_cmp (op_inA false hu) (does_in false) ha hb hm
theorem d_notin (ha : PE X a (tM X.K W ma)) (hb : PE X b (tM X.K W mb)) (hu : X.A.units + 65 < cLine) (hm : behindInMarks .NotIn b = false := by rfl) : PE X (.Compare a [.NotIn] [b] pos) (tM X.K W (mBin (fIn true) ma mb)) := d_cmp (op_inA true hu) (does_in true) ha hb hm
theorem d_is (ha : PE X a (tM X.K W ma)) (hb : PE X b (tM X.K W mb)) : PE X (.Compare a [.Is] [b] pos) (tM X.K W (mBin (fIs false) ma mb)) := d_cmp op_isN does_is ha hb (nomark _)
theorem d_isnot (ha : PE X a (tM X.K W ma)) (hb : PE X b (tM X.K W mb)) : PE X (.Compare a [.IsNot] [b] pos) (tM X.K W (mBin (fIs true) ma mb)) := d_cmp op_notN does_isnot ha hb (nomark _)
/-! ### a op b op' c -/
def mChain (f g : F2) (a b c : ME) : ME := fun e μ => (a e μ).bind fun x μ1 => (b e μ1).bind fun y μ2 => (f x y μ2).bind fun z μ3 => match z with
  | .bl true => (c e μ3).bind fun w μ4 => g y w μ4
  | .bl false => .ok (.bl false) μ3
  | _ => .stuck
/-- f is of no effect -/
def Pure2 (f : F2) : Prop := ∀ x y μ, (∃ b, f x y μ = .ok (.bl b) μ) ∨ f x y μ = .stuck
theorem pure_I0 {g : Int → Int → Bool} : Pure2 (fI0 fun i j => .bl (g i j)) := fun x y μ => by
  unfold fI0
  split
  · exact .inl ⟨_, rfl⟩
  · exact .inr rfl
theorem tM_chain {f g : F2} {r r' : R2} {K : PySem.W.Frag} (hf : Does2 K f r) (hp : Pure2 f) (hg : Does2 K g r') {σ : L2.St} {H : Hp} {Q : VK} (h : tM K W (mChain f g ma mb mc) σ H Q) : tChain r r' (tM K W ma) (tM K W mb) (tM K W mc) σ H Q := by
  obtain ⟨e, μ, α, h⟩ := At.of h
  refine h.bind fun x μ1 v H1 α1 g1 r1 h1 => ?_
  refine h1.bind fun y μ2 w H2 α2 g2 r2 h2 => ?_
  have r1' := Rp.go g2 r1
  rcases hp x y μ2 with ⟨k, hk⟩ | hk
  · refine hf W (fun z H3 => ∃ k, z = .bl k ∧ (if k = true then tM K W mc σ H3 fun w' H4 => r' w w' H4 Q else Q (.bl false) H3)) e σ μ2 α2 H2 x y v w r1' r2 ⟨h2.en, h2.rel, h2.sd, ?_⟩
    rw [hk]
    intro z H3 α3 g3 R3 r3
    refine ⟨k, rp_bl_iff r3, ?_⟩
    have h3 : At K W (RV K) Q e σ μ2 α3 H3 (match D.bl k with
      | .bl true => (mc e μ2).bind fun w μ4 => g y w μ4
      | .bl false => .ok (.bl false) μ2
      | _ => .stuck) := ⟨h2.en.go g3, R3, W.ge g3.ge h2.sd, by have := h2.post; rw [hk] at this; exact this.go g3⟩
    cases k with
    | false => exact h3.fin rp_bl
    | true =>
      show tM K W mc σ H3 _
      refine At.bind (m := mc) (k := fun w μ4 => g y w μ4) h3 fun z' μ4 w' H4 α4 g4 r4 h4 => ?_
      exact hg W Q e σ μ4 α4 H4 y z' w w' (Rp.go g4 (Rp.go g3 r2)) r4 h4
  · have := h2.post
    rw [hk] at this
    exact this.elim
theorem d_chain {op op' : CmpOp} {f g : F2} {r r' : R2} (ho : OpR X (compareOp op) r) (hf : Does2 X.K f r) (hp : Pure2 f) (ho' : OpR X (compareOp op') r') (hg : Does2 X.K g r') (ha : PE X a (tM X.K W ma)) (hb : PE X b (tM X.K W mb)) (hc : PE X c (tM X.K W mc))
    (hm : lastMarks [op, op'] [b, c] = false := by with_unfolding_all rfl) : PE X (.Compare a [op, op'] [b, c] pos) (tM X.K W (mChain f g ma mb mc)) := (pe_chain ho ho' ha hb hc hm).imp fun σ H Q h => tM_chain hf hp hg h
theorem does_lt {K : PySem.W.Frag} : Does2 K fLt (rI0 fun i j => .bl (decide (i < j))) := does_I0 fun _ _ _ _ _ => rp_bl
theorem does_le {K : PySem.W.Frag} : Does2 K fLe (rI0 fun i j => .bl (decide (i ≤ j))) := does_I0 fun _ _ _ _ _ => rp_bl
theorem d_ltlt (ha : PE X a (tM X.K W ma)) (hb : PE X b (tM X.K W mb)) (hc : PE X c (tM X.K W mc)) (hm : lastMarks [.Lt, .Lt] [b, c] = false := by with_unfolding_all rfl) : PE X (.Compare a [.Lt, .Lt] [b, c] pos) (tM X.K W (mChain fLt fLt ma mb mc)) := d_chain op_lt does_lt pure_I0 op_lt does_lt ha hb hc hm
theorem d_lelt (ha : PE X a (tM X.K W ma)) (hb : PE X b (tM X.K W mb)) (hc : PE X c (tM X.K W mc)) (hm : lastMarks [.LtE, .Lt] [b, c] = false := by with_unfolding_all rfl) : PE X (.Compare a [.LtE, .Lt] [b, c] pos) (tM X.K W (mChain fLe fLt ma mb mc)) := d_chain op_le does_le pure_I0 op_lt does_lt ha hb hc hm
/-! ### tests -/
/-- a value that is a bool -/
def mTb (m : ME) : MT := fun e μ => (m e μ).bind fun d μ1 => match d with
  | .bl b => .ok b μ1
  | _ => .stuck
theorem t_tb {t : TE} (h : ∀ σ H Q, tM X.K W ma σ H Q → t σ H Q) : ∀ (σ : L2.St) (H : Hp) (Q : Bool → Hp → Prop), tMT X.K W (mTb ma) σ H Q → tTest t σ H Q := fun σ H Q hm => by
  obtain ⟨e, μ, α, hm⟩ := At.of hm
  refine h σ H _ (hm.bind fun x μ1 v H1 α1 g1 r1 h1 => ?_)
  cases x with
  | bl b => exact ⟨b, rp_bl_iff r1, h1.fin rfl⟩
  | _ => exact h1.post.elim
theorem d_tcmp {op : CmpOp} {f : F2} {r : R2} (ho : OpR X (compareOp op) r) (hf : Does2 X.K f r) (ha : PE X a (tM X.K W ma)) (hb : PE X b (tM X.K W mb)) (hm : behindInMarks op b = false) : PT X (.Compare a [op] [b] pos) (tMT X.K W (mTb (mBin f ma mb))) :=
  (pt_cmpR ho ha hb hm).imp (t_tb fun σ H Q h => tM_bin hf h)
theorem d_tlt (ha : PE X a (tM X.K W ma)) (hb : PE X b (tM X.K W mb)) : PT X (.Compare a [.Lt] [b] pos) (tMT X.K W (mTb (mBin fLt ma mb))) := d_tcmp op_lt (does_I0 fun _ _ _ _ _ => rp_bl) ha hb (nomark _)
theorem d_tle (ha : PE X a (tM X.K W ma)) (hb : PE X b (tM X.K W mb)) : PT X (.Compare a [.LtE] [b] pos) (tMT X.K W (mTb (mBin fLe ma mb))) := d_tcmp op_le (does_I0 fun _ _ _ _ _ => rp_bl) ha hb (nomark _)
theorem d_tgt (ha : PE X a (tM X.K W ma)) (hb : PE X b (tM X.K W mb)) : PT X (.Compare a [.Gt] [b] pos) (tMT X.K W (mTb (mBin fGt ma mb))) := d_tcmp op_gt (does_I0 fun _ _ _ _ _ => rp_bl) ha hb (nomark _)
theorem d_tge (ha : PE X a (tM X.K W ma)) (hb : PE X b (tM X.K W mb)) : PT X (.Compare a [.GtE] [b] pos) (tMT X.K W (mTb (mBin fGe ma mb))) := d_tcmp op_ge (does_I0 fun _ _ _ _ _ => rp_bl) ha hb (nomark _)
theorem d_teq (ha : PE X a (tM X.K W ma)) (hb : PE X b (tM X.K W mb)) (hu : X.A.units + 64 < cLine) : PT X (.Compare a [.Eq] [b] pos) (tMT X.K W (mTb (mBin fEq ma mb))) := d_tcmp (op_eq.or (op_eqD hu)) does_eq ha hb (nomark _)
theorem d_tne (ha : PE X a (tM X.K W ma)) (hb : PE X b (tM X.K W mb)) (hu : X.A.units + 64 < cLine) : PT X (.Compare a [.NotEq] [b] pos) (tMT X.K W (mTb (mBin fNe ma mb))) := d_tcmp (op_ne.or (op_neD hu)) does_ne ha hb (nomark _)
theorem d_tin (ha : PE X a (tM X.K W ma)) (hb : PE X b (tM X.K W mb)) (hu : X.A.units + 65 < cLine) (hm : behindInMarks .In b = false := by rfl) : PT X (.Compare a [.In] [b] pos) (tMT X.K W (mTb (mBin (fIn false) ma mb))) := d_tcmp (op_inA false hu) (does_in false) ha hb hm
theorem d_tnotin (ha : PE X a (tM X.K W ma)) (hb : PE X b (tM X.K W mb)) (hu : X.A.units + 65 < cLine) (hm : behindInMarks .NotIn b = false := by rfl) : PT X (.Compare a [.NotIn] [b] pos) (tMT X.K W (mTb (mBin (fIn true) ma mb))) := d_tcmp (op_inA true hu) (does_in true) ha hb hm
theorem d_tis (ha : PE X a (tM X.K W ma)) (hb : PE X b (tM X.K W mb)) : PT X (.Compare a [.Is] [b] pos) (tMT X.K W (mTb (mBin (fIs false) ma mb))) := d_tcmp op_isN does_is ha hb (nomark _)
theorem d_tisnot (ha : PE X a (tM X.K W ma)) (hb : PE X b (tM X.K W mb)) : PT X (.Compare a [.IsNot] [b] pos) (tMT X.K W (mTb (mBin (fIs true) ma mb))) := d_tcmp op_notN does_isnot ha hb (nomark _)
theorem d_tltlt (ha : PE X a (tM X.K W ma)) (hb : PE X b (tM X.K W mb)) (hc : PE X c (tM X.K W mc)) (hm : lastMarks [.Lt, .Lt] [b, c] = false := by with_unfolding_all rfl) : PT X (.Compare a [.Lt, .Lt] [b, c] pos) (tMT X.K W (mTb (mChain fLt fLt ma mb mc))) := (pt_chain op_lt op_lt ha hb hc hm).imp (t_tb fun σ H Q h => tM_chain does_lt pure_I0 does_lt h)
theorem d_tlelt (ha : PE X a (tM X.K W ma)) (hb : PE X b (tM X.K W mb)) (hc : PE X c (tM X.K W mc)) (hm : lastMarks [.LtE, .Lt] [b, c] = false := by with_unfolding_all rfl) : PT X (.Compare a [.LtE, .Lt] [b, c] pos) (tMT X.K W (mTb (mChain fLe fLt ma mb mc))) := (pt_chain op_le op_lt ha hb hc hm).imp (t_tb fun σ H Q h => tM_chain does_le pure_I0 does_lt h)
/-- truth -/
def truD (μ : Mem) : D → Option Bool
  | .non => some false
  | .bl b => some b
  | .int i => some (i != 0)
  | .str x => some ((x.length : Int) != 0)
  | d => match viewS μ d with
    | some ds => some (!ds.isEmpty)
    | none => none
theorem isEmpty_rps {K : PySem.W.Frag} {H : Hp} {α : TR} {N : Nat} {ds : List D} {vs : List V} (r : Rps K H α N ds vs) : ds.isEmpty = vs.isEmpty := by
  cases ds with
  | nil => rw [Rps.nil_inv r]; rfl
  | cons d ds => obtain ⟨v, us, rfl, _⟩ := Rps.cons_inv r; rfl
theorem tru_at {K : PySem.W.Frag} {μ : Mem} {α : TR} {H : Hp} {d : D} {v : V} {b : Bool} (R : Rel K μ α H) (r : Rp K H α μ.length d v) (h : truD μ d = some b) : TruV K v H b := by
  unfold truD at h
  split at h
  · cases h; rw [rp_non_iff r]; rfl
  · cases h; rw [rp_bl_iff r]; rfl
  · cases h; rw [rp_int_iff r]; rfl
  · cases h; have hl := rp_str_len r; rw [rp_str_iff r]; exact ⟨hl, rfl⟩
  · split at h
    · rename_i ds q
      cases h
      obtain ⟨a, xs, rfl, hs, r2, _⟩ := viewS_at R r q
      rw [isEmpty_rps r2]
      rcases hs with z | z
      · exact .inl ⟨xs, z, rfl⟩
      · exact .inr (.inl ⟨xs, z, rfl⟩)
    · cases h
def mTru (m : ME) : MT := fun e μ => (m e μ).bind fun d μ1 => match truD μ1 d with
  | some b => .ok b μ1
  | none => .stuck
theorem d_truth (ha : PE X a (tM X.K W ma)) (he : ∀ whole, isTrue a X.env whole = (do let v ← whole; standAt a.pos; holding [v] (truthy v)) := by intro _; rfl) : PT X a (tMT X.K W (mTru ma)) :=
  (pt_truth ha he).imp fun σ H Q h => by
    obtain ⟨e, μ, α, h⟩ := At.of h
    refine h.bind fun x μ1 v H1 α1 g1 r1 h1 => ?_
    cases q : truD μ1 x with
    | none => simp only [q] at h1; exact h1.post.elim
    | some k => simp only [q] at h1; exact ⟨k, tru_at h1.rel r1 q, h1.fin rfl⟩
variable {ta tb : MT} {rest : List Expr}
def mAndT (a b : MT) : MT := fun e μ => (a e μ).bind fun k μ1 => if k = true then b e μ1 else .ok false μ1
def mOrT (a b : MT) : MT := fun e μ => (a e μ).bind fun k μ1 => if k = true then .ok true μ1 else b e μ1
def mNotT (a : MT) : MT := fun e μ => (a e μ).bind fun k μ1 => .ok (!k) μ1
theorem w_and1 (ha : PT X a (tMT X.K W ta)) : PW X (.BoolOp .And [a] pos) (tMT X.K W ta) := pw_and1 ha
theorem w_or1 (ha : PT X a (tMT X.K W ta)) : PW X (.BoolOp .Or [a] pos) (tMT X.K W ta) := pw_or1 ha
theorem At.tx {K : PySem.W.Frag} {β γ : Type} {R : Hp → TR → Nat → β → γ → Prop} {Q : γ → Hp → Prop} {e : En} {σ : L2.St} {μ : Mem} {α : TR} {H : Hp} {m : En → Mem → Res β} (h : At K W R Q e σ μ α H (m e μ)) : tX K W R m σ H Q := ⟨e, μ, α, h.en, h.rel, h.sd, h.post⟩
theorem w_and (ha : PT X a (tMT X.K W ta)) (hb : PW X (.BoolOp .And (b :: rest) pos) (tMT X.K W tb)) : PW X (.BoolOp .And (a :: b :: rest) pos) (tMT X.K W (mAndT ta tb)) :=
  (pw_and ha hb).imp fun σ H Q h => by
    obtain ⟨e, μ, α, h⟩ := At.of h
    refine h.bind fun x μ1 v H1 α1 g1 r1 h1 => ?_
    cases r1
    cases x with
    | true => exact h1.tx
    | false => exact h1.fin rfl
theorem w_or (ha : PT X a (tMT X.K W ta)) (hb : PW X (.BoolOp .Or (b :: rest) pos) (tMT X.K W tb)) : PW X (.BoolOp .Or (a :: b :: rest) pos) (tMT X.K W (mOrT ta tb)) :=
  (pw_or ha hb).imp fun σ H Q h => by
    obtain ⟨e, μ, α, h⟩ := At.of h
    refine h.bind fun x μ1 v H1 α1 g1 r1 h1 => ?_
    cases r1
    cases x with
    | false => exact h1.tx
    | true => exact h1.fin rfl
theorem d_tnot (ha : PT X a (tMT X.K W ta)) : PT X (.UnaryOp .Not a pos) (tMT X.K W (mNotT ta)) :=
  (pt_not ha).imp fun σ H Q h => by
    obtain ⟨e, μ, α, h⟩ := At.of h
    refine h.bind fun x μ1 v H1 α1 g1 r1 h1 => ?_
    cases r1
    exact h1.fin rfl
/-- and, or, not as values -/
def mAnd (a b : ME) : ME := fun e μ => (a e μ).bind fun d μ1 => match truD μ1 d with
  | some true => b e μ1
  | some false => .ok d μ1
  | none => .stuck
def mOr (a b : ME) : ME := fun e μ => (a e μ).bind fun d μ1 => match truD μ1 d with
  | some true => .ok d μ1
  | some false => b e μ1
  | none => .stuck
def mNot (a : ME) : ME := fun e μ => (a e μ).bind fun d μ1 => match truD μ1 d with
  | some k => .ok (.bl (!k)) μ1
  | none => .stuck
theorem d_one {op} (h : PE X a (tM X.K W ma)) : PE X (.BoolOp op [a] pos) (tM X.K W ma) := pe_one h
theorem d_and (ha : PE X a (tM X.K W ma)) (hb : PE X (.BoolOp .And (b :: rest) pos) (tM X.K W mb)) : PE X (.BoolOp .And (a :: b :: rest) pos) (tM X.K W (mAnd ma mb)) :=
  (pe_andT ha hb).imp fun σ H Q h => by
    obtain ⟨e, μ, α, h⟩ := At.of h
    refine h.bind fun x μ1 v H1 α1 g1 r1 h1 => ?_
    cases q : truD μ1 x with
    | none => simp only [q] at h1; exact h1.post.elim
    | some k =>
      refine ⟨k, tru_at h1.rel r1 q, ?_⟩
      simp only [q] at h1
      cases k with
      | true => exact h1.tx
      | false => exact h1.fin r1
theorem d_or (ha : PE X a (tM X.K W ma)) (hb : PE X (.BoolOp .Or (b :: rest) pos) (tM X.K W mb)) : PE X (.BoolOp .Or (a :: b :: rest) pos) (tM X.K W (mOr ma mb)) :=
  (pe_orT ha hb).imp fun σ H Q h => by
    obtain ⟨e, μ, α, h⟩ := At.of h
    refine h.bind fun x μ1 v H1 α1 g1 r1 h1 => ?_
    cases q : truD μ1 x with
    | none => simp only [q] at h1; exact h1.post.elim
    | some k =>
      refine ⟨k, tru_at h1.rel r1 q, ?_⟩
      simp only [q] at h1
      cases k with
      | false => exact h1.tx
      | true => exact h1.fin r1
theorem d_not (ha : PE X a (tM X.K W ma)) : PE X (.UnaryOp .Not a pos) (tM X.K W (mNot ma)) :=
  (pe_notT ha).imp fun σ H Q h => by
    obtain ⟨e, μ, α, h⟩ := At.of h
    refine h.bind fun x μ1 v H1 α1 g1 r1 h1 => ?_
    cases q : truD μ1 x with
    | none => simp only [q] at h1; exact h1.post.elim
    | some k => simp only [q] at h1; exact ⟨k, tru_at h1.rel r1 q, h1.fin rp_bl⟩
def mNeg (a : ME) : ME := fun e μ => (a e μ).bind fun d μ1 => match d with
  | .int i => .ok (.int (-i)) μ1
  | _ => .stuck
theorem d_neg (ha : PE X a (tM X.K W ma)) : PE X (.UnaryOp .USub a pos) (tM X.K W (mNeg ma)) :=
  (pe_un un_neg ha).imp fun σ H Q h => by
    obtain ⟨e, μ, α, h⟩ := At.of h
    refine h.bind fun x μ1 v H1 α1 g1 r1 h1 => ?_
    cases x with
    | int i => exact ⟨i, rp_int_iff r1, h1.fin rp_int⟩
    | _ => exact h1.post.elim
/-- a if t else b -/
def mIf (t : MT) (a b : ME) : ME := fun e μ => (t e μ).bind fun k μ1 => if k = true then a e μ1 else b e μ1
theorem d_if {t : Expr} (ht : PT X t (tMT X.K W ta)) (ha : PE X a (tM X.K W ma)) (hb : PE X b (tM X.K W mb)) : PE X (.IfExp t a b pos) (tM X.K W (mIf ta ma mb)) :=
  (pe_ifExp ht ha hb).imp fun σ H Q h => by
    obtain ⟨e, μ, α, h⟩ := At.of h
    refine h.bind fun x μ1 v H1 α1 g1 r1 h1 => ?_
    cases r1
    cases x with
    | true => exact h1.tx
    | false => exact h1.tx
/-! ### argument lists, displays -/
def mNil : MA := fun _ μ => .ok [] μ
def mCons (a : ME) (as : MA) : MA := fun e μ => (a e μ).bind fun d μ1 => (as e μ1).bind fun ds μ2 => .ok (d :: ds) μ2
def mStar (a : ME) (as : MA) : MA := fun e μ => (a e μ).bind fun d μ1 => match viewS μ1 d with
  | some xs => (as e μ1).bind fun ds μ2 => .ok (xs ++ ds) μ2
  | none => .stuck
theorem a_nil : PA X [] (tMA X.K W mNil) := pa_nil.imp fun σ H Q h => by
  obtain ⟨e, μ, α, h⟩ := At.of h
  exact h.fin Rps.nil
theorem a_cons (ha : PE X a (tM X.K W ma)) (hr : PA X es (tMA X.K W ms)) (hs : starEach (a :: es) X.env = (false, eval a X.env) :: starEach es X.env := by rfl) : PA X (a :: es) (tMA X.K W (mCons ma ms)) :=
  (pa_cons ha hr hs).imp fun σ H Q h => by
    obtain ⟨e, μ, α, h⟩ := At.of h
    refine h.bind fun x μ1 v H1 α1 g1 r1 h1 => ?_
    refine h1.bind fun y μ2 w H2 α2 g2 r2 h2 => ?_
    exact h2.fin (Rps.cons (Rp.go g2 r1) r2)
def mTup (as : MA) : ME := fun e μ => (as e μ).bind fun ds μ1 => if ds.length ≤ 16777216 then .ok (.tup ds) μ1 else .stuck
def mLst (as : MA) : ME := fun e μ => (as e μ).bind fun ds μ1 => if ds.length ≤ 16777216 then .ok (.lst ds) μ1 else .stuck
/-- a list that is to be changed -/
def mCel (as : MA) : ME := fun e μ => (as e μ).bind fun ds μ1 => if ds.length ≤ 16777216 then .ok (.ref μ1.length) (μ1 ++ [.lst ds]) else .stuck
theorem d_tup {x1} (h : PA X es (tMA X.K W ms)) : PE X (.Tuple es x1 pos) (tM X.K W (mTup ms)) := (pe_tup h).imp fun σ H Q h => by
  obtain ⟨e, μ, α, h⟩ := At.of h
  refine h.bind fun x μ1 v H1 α1 g1 r1 h1 => ?_
  by_cases c : x.length ≤ 16777216
  · rw [if_pos c] at h1
    have r1 : Rps X.K H1 α1 μ1.length x v := r1
    exact ⟨by rw [r1.length]; exact line_of c, fun p hp => h1.tup r1 (line_of c) hp⟩
  · rw [if_neg c] at h1; exact h1.post.elim
theorem d_lst (h : PA X es (tMA X.K W ms)) : PE X (.List es pos) (tM X.K W (mLst ms)) := (pe_lst h).imp fun σ H Q h => by
  obtain ⟨e, μ, α, h⟩ := At.of h
  refine h.bind fun x μ1 v H1 α1 g1 r1 h1 => ?_
  by_cases c : x.length ≤ 16777216
  · rw [if_pos c] at h1
    have r1 : Rps X.K H1 α1 μ1.length x v := r1
    exact ⟨by rw [r1.length]; exact line_of c, fun p hp => h1.lst r1 (line_of c) hp⟩
  · rw [if_neg c] at h1; exact h1.post.elim
theorem d_cel (h : PA X es (tMA X.K W ms)) : PE X (.List es pos) (tM X.K W (mCel ms)) := (pe_lst h).imp fun σ H Q h => by
  obtain ⟨e, μ, α, h⟩ := At.of h
  refine h.bind fun x μ1 v H1 α1 g1 r1 h1 => ?_
  by_cases c : x.length ≤ 16777216
  · rw [if_pos c] at h1
    have r1 : Rps X.K H1 α1 μ1.length x v := r1
    exact ⟨by rw [r1.length]; exact line_of c, fun p hp => h1.newc r1 (line_of c) hp⟩
  · rw [if_neg c] at h1; exact h1.post.elim
/-! ### x[i] -/
def ixD (x y : D) (μ : Mem) : Option D := match x, y with
  | .str z, .int i => (atI z.cps.toList i).map fun c => .str ⟨#[c]⟩
  | .scr ns, .int i => (atI ns i).map .int
  | x, .int i => match viewS μ x with
    | some ds => atI ds i
    | none => none
  | _, _ => none
def fIx : F2 := fun x y μ => match ixD x y μ with
  | some d => .ok d μ
  | none => .stuck
theorem atI_rps {K : PySem.W.Frag} {H : Hp} {α : TR} {N : Nat} {ds : List D} {vs : List V} {i : Int} {d : D} (r : Rps K H α N ds vs) (h : atI ds i = some d) : ∃ v, atI vs i = some v ∧ Rp K H α N d v := by
  unfold atI at h ⊢
  rw [r.length]
  cases q : ixN ds.length i with
  | none => rw [q] at h; cases h
  | some j => rw [q] at h; exact r.get h
theorem does_ix {K : PySem.W.Frag} : Does2 K fIx (rIx K) := by
  intro W Q e σ μ α H x y v w rx ry h
  unfold fIx at h
  split at h
  · rename_i d q
    unfold ixD at q
    split at q
    · rename_i z i
      obtain ⟨c, h1, rfl⟩ := Option.map_eq_some_iff.mp q
      exact .inr (.inr ⟨z, i, c, rp_str_iff rx, rp_int_iff ry, rp_str_len rx, h1, h.fin (rp_str (line_of (by show 1 ≤ _; decide)))⟩)
    · rename_i ns i
      obtain ⟨c, h1, rfl⟩ := Option.map_eq_some_iff.mp q
      unfold Rp at rx
      obtain ⟨a, rfl, hf⟩ := rx
      refine .inl ⟨a, _, i, .int c, rfl, rp_int_iff ry, hf.sq, ?_, h.fin rp_int⟩
      unfold atI at h1 ⊢
      rw [List.length_map]
      cases q2 : ixN ns.length i with
      | none => rw [q2] at h1; cases h1
      | some j =>
        rw [q2] at h1
        have h1 : ns[j]? = some c := h1
        show (ns.map V.int)[j]? = _
        rw [List.getElem?_map, h1]; rfl
    · rename_i i _ _
      split at q
      · rename_i ds hv
        obtain ⟨a, xs, rfl, hs, r2, _⟩ := viewS_at h.rel rx hv
        obtain ⟨u, hu, ru⟩ := atI_rps r2 q
        rcases hs with z | z
        · exact .inl ⟨a, xs, i, u, rfl, rp_int_iff ry, z, hu, h.fin ru⟩
        · exact .inr (.inl ⟨a, xs, i, u, rfl, rp_int_iff ry, z, hu, h.fin ru⟩)
      · cases q
    · cases q
  · exact h.post.elim
theorem d_ix (ha : PE X a (tM X.K W ma)) (hb : PE X b (tM X.K W mb)) (hs : PlainIx b := by exact fun _ _ => rfl) : PE X (.Subscript a b pos) (tM X.K W (mBin fIx ma mb)) := (pe_ix ix_seq ha hb hs).imp fun σ H Q h => tM_bin does_ix h
/-! ### slices -/
abbrev MO := En → Mem → Res (Option Int)
def RO : Hp → TR → Nat → Option Int → Option Int → Prop := fun _ _ _ b c => b = c
abbrev tMO (K : PySem.W.Frag) (W : WS) (m : MO) : TO := tX K W RO m
def mNo : MO := fun _ μ => .ok none μ
def mSo (m : ME) : MO := fun e μ => (m e μ).bind fun d μ1 => match d with
  | .int i => .ok (some i) μ1
  | _ => .stuck
theorem o_none : PO X none (tMO X.K W mNo) := ⟨fun pins s σ H Q I h => po_none.run pins s σ H Q I (by
  obtain ⟨e, μ, α, h⟩ := At.of h
  exact h.fin rfl)⟩
theorem o_some (h : PE X a (tM X.K W ma)) : PO X (some a) (tMO X.K W (mSo ma)) := ⟨fun pins s σ H Q I hm => (po_some h).run pins s σ H Q I (by
  obtain ⟨e, μ, α, hm⟩ := At.of hm
  refine hm.bind fun x μ1 v H1 α1 g1 r1 h1 => ?_
  cases x with
  | int i => exact ⟨i, rp_int_iff r1, h1.fin rfl⟩
  | _ => exact h1.post.elim)⟩
def cutD (xs : List D) (lo hi : Option Int) : List D := (xs.drop (HT.sIx xs.length 0 lo)).take (HT.sIx xs.length xs.length hi - HT.sIx xs.length 0 lo)
theorem cut_rps {K : PySem.W.Frag} {H : Hp} {α : TR} {N : Nat} {ds : List D} {vs : List V} {lo hi : Option Int} (r : Rps K H α N ds vs) : Rps K H α N (cutD ds lo hi) (cutV vs lo hi) := by
  unfold cutD cutV
  rw [r.length]
  exact (r.drop _).take _
theorem cutD_length (xs : List D) (lo hi : Option Int) : (cutD xs lo hi).length ≤ xs.length := by
  unfold cutD
  rw [List.length_take, List.length_drop]
  omega
def slD (x : D) (lo hi : Option Int) (μ : Mem) : Option D := match x with
  | .str z => some (.str (cutS z lo hi))
  | .tup ds => some (.tup (cutD ds lo hi))
  | x => (viewL μ x).map fun ds => .lst (cutD ds lo hi)
def mSl (a : ME) (l h : MO) : ME := fun e μ => (a e μ).bind fun x μ1 => (l e μ1).bind fun lo μ2 => (h e μ2).bind fun hi μ3 => match slD x lo hi μ3 with
  | some d => .ok d μ3
  | none => .stuck
theorem whole_cut (ds : List D) (lo hi : Option Int) (h : HT.sIx ds.length 0 lo = 0 ∧ HT.sIx ds.length ds.length hi = ds.length) : cutD ds lo hi = ds := by
  unfold cutD
  rw [h.1, h.2]
  simp
theorem cutS_len (z : Str) (lo hi : Option Int) : (cutS z lo hi).length ≤ z.length := by
  unfold cutS
  show ((_ : List Nat).toArray).size ≤ _
  rw [List.size_toArray, List.length_take, List.length_drop]
  show min _ (z.cps.toList.length - _) ≤ z.cps.size
  rw [Array.length_toList]
  omega
theorem d_sl {lo hi : Option Expr} {ml mh : MO} {p2 : Pos} (ha : PE X a (tM X.K W ma)) (hl : PO X lo (tMO X.K W ml)) (hh : PO X hi (tMO X.K W mh)) : PE X (.Subscript a (.Slice lo hi none p2) pos) (tM X.K W (mSl ma ml mh)) :=
  (pe_slice (sl_str.or (sl_tupA.or sl_list)) ha hl hh).imp fun σ H Q h => by
    obtain ⟨e, μ, α, h⟩ := At.of h
    refine h.bind fun x μ1 v H1 α1 g1 r1 h1 => ?_
    refine h1.bind fun l μ2 l' H2 α2 g2 r2 h2 => ?_
    cases r2
    refine h2.bind fun u μ3 u' H3 α3 g3 r3 h3 => ?_
    cases r3
    have rx := Rp.go g3 (Rp.go g2 r1)
    cases q : slD x l u μ3 with
    | none => simp only [q] at h3; exact h3.post.elim
    | some d =>
      simp only [q] at h3
      unfold slD at q
      split at q
      · rename_i z
        cases q
        exact .inl ⟨z, rp_str_iff rx, rp_str_len rx, h3.fin (rp_str (Nat.le_trans (cutS_len _ _ _) (rp_str_len rx)))⟩
      · rename_i ds
        cases q
        obtain ⟨p, xs, rfl, hp, rp, hz⟩ := viewT_at (ds := ds) rx rfl
        refine .inr (.inl ⟨p, xs, rfl, hp, fun z => ?_, fun _ t ht => h3.tup (cut_rps rp) (Nat.le_trans (cutD_length _ _ _) hz) ht⟩)
        rw [rp.length] at z
        rw [whole_cut _ _ _ z] at h3
        exact h3.fin rx
      · obtain ⟨ds, hv, rfl⟩ := Option.map_eq_some_iff.mp q
        obtain ⟨p, xs, rfl, hp, rp, hz⟩ := viewL_at h3.rel rx hv
        exact .inr (.inr ⟨p, xs, rfl, .of hp, fun t ht => h3.lst (cut_rps rp) (Nat.le_trans (cutD_length _ _ _) hz) ht⟩)
end
end MP
end
set_option Elab.async false
set_option linter.all false
set_option maxRecDepth 100000
set_option maxHeartbeats 1000000
noncomputable section
namespace MP
open PySem PySem.Spec PyProof.Rows L2
/-! ### calls of built-in functions and types -/
abbrev FN := List D → Mem → Res D
def mCB (f : FN) (as : MA) : ME := fun e μ => (as e μ).bind fun ds μ1 => f ds μ1
def DoesN (K : PySem.W.Frag) (f : FN) (r : List V → Hp → VK → Prop) : Prop := ∀ (W : WS) (Q : VK) (e : En) (σ : L2.St) (μ : Mem) (α : TR) (H : Hp) (ds : List D) (vs : List V), Rps K H α μ.length ds vs → At K W (RV K) Q e σ μ α H (f ds μ) → r vs H Q
section
variable {X : Cx} {W : WS} {pos p apos : Pos} {e o : Expr} {es : List Expr} {ms : MA} {mo ma : ME} {f : FN} {r : List V → Hp → VK → Prop} {x : Str} {id T : String}
theorem tM_CB {K : PySem.W.Frag} (hf : DoesN K f r) {σ : L2.St} {H : Hp} {Q : VK} (h : tM K W (mCB f ms) σ H Q) : tCB r (tMA K W ms) σ H Q := by
  obtain ⟨e, μ, α, h⟩ := At.of h
  exact h.bind fun ds μ1 vs H1 α1 g1 r1 h1 => hf W Q _ _ _ _ _ _ _ r1 h1
theorem d_callB (hc : CallR X (.builtin id) r) (hf : DoesN X.K f r) (hg : Gl X x) (hm : X.mg x = none) (hv : bootBuiltins x = some (.builtin id)) (ha : PA X (e :: es) (tMA X.K W ms)) (hn : x ≠ "__name__" := by decide) (hdb : (x == ("__debug__" : Str)) = false := by decide)
    (he : starEach (e :: es) X.env = (false, eval e X.env) :: starEach es X.env := by rfl) (hpl : (backTo pos (starEach es X.env)).any (·.1) = false := by rfl) : PE X (.Call (.Name x p) (e :: es) [] pos) (tM X.K W (mCB f ms)) :=
  (pe_callB hc hg hm hv ha hn hdb he hpl).imp fun σ H Q h => tM_CB hf h
theorem d_callTy (hc : CallR X (.type T) r) (hf : DoesN X.K f r) (hg : Gl X x) (hm : X.mg x = none) (hv : bootBuiltins x = some (.type T)) (ha : PA X (e :: es) (tMA X.K W ms)) (hn : x ≠ "__name__" := by decide) (hdb : (x == ("__debug__" : Str)) = false := by decide)
    (he : starEach (e :: es) X.env = (false, eval e X.env) :: starEach es X.env := by rfl) (hpl : (backTo pos (starEach es X.env)).any (·.1) = false := by rfl) : PE X (.Call (.Name x p) (e :: es) [] pos) (tM X.K W (mCB f ms)) :=
  (pe_callTy hc hg hm hv ha hn hdb he hpl).imp fun σ H Q h => tM_CB hf h
theorem rps1 {K : PySem.W.Frag} {H : Hp} {α : TR} {N : Nat} {d : D} {vs : List V} (h : Rps K H α N [d] vs) : ∃ v, vs = [v] ∧ Rp K H α N d v := by
  obtain ⟨v, u, rfl, h1, h2⟩ := Rps.cons_inv h
  rw [Rps.nil_inv h2]
  exact ⟨v, rfl, h1⟩
theorem rps2 {K : PySem.W.Frag} {H : Hp} {α : TR} {N : Nat} {d d2 : D} {vs : List V} (h : Rps K H α N [d, d2] vs) : ∃ v v2, vs = [v, v2] ∧ Rp K H α N d v ∧ Rp K H α N d2 v2 := by
  obtain ⟨v, u, rfl, h1, h2⟩ := Rps.cons_inv h
  obtain ⟨v2, rfl, h3⟩ := rps1 h2
  exact ⟨v, v2, rfl, h1, h3⟩
/-- one argument -/
def f1 (g : D → Mem → Res D) : FN := fun ds μ => match ds with
  | [d] => g d μ
  | _ => .stuck
def f2 (g : D → D → Mem → Res D) : FN := fun ds μ => match ds with
  | [d, d2] => g d d2 μ
  | _ => .stuck
theorem does1 {K : PySem.W.Frag} {g : D → Mem → Res D} {r : List V → Hp → VK → Prop} (h : ∀ (W : WS) (Q : VK) (e : En) (σ : L2.St) (μ : Mem) (α : TR) (H : Hp) (d : D) (v : V), Rp K H α μ.length d v → At K W (RV K) Q e σ μ α H (g d μ) → r [v] H Q) : DoesN K (f1 g) r := by
  intro W Q e σ μ α H ds vs rs ha
  unfold f1 at ha
  split at ha
  · obtain ⟨v, rfl, r1⟩ := rps1 rs
    exact h W Q e σ μ α H _ v r1 ha
  · exact ha.post.elim
theorem does2 {K : PySem.W.Frag} {g : D → D → Mem → Res D} {r : List V → Hp → VK → Prop} (h : ∀ (W : WS) (Q : VK) (e : En) (σ : L2.St) (μ : Mem) (α : TR) (H : Hp) (d d2 : D) (v v2 : V), Rp K H α μ.length d v → Rp K H α μ.length d2 v2 → At K W (RV K) Q e σ μ α H (g d d2 μ) → r [v, v2] H Q) : DoesN K (f2 g) r := by
  intro W Q e σ μ α H ds vs rs ha
  unfold f2 at ha
  split at ha
  · obtain ⟨v, v2, rfl, r1, r2⟩ := rps2 rs
    exact h W Q e σ μ α H _ _ v v2 r1 r2 ha
  · exact ha.post.elim
/-! len -/
def lenD (μ : Mem) : D → Option Nat
  | .str x => some x.length
  | .scr ns => some ns.length
  | d => (viewS μ d).map (·.length)
def fLen : FN := f1 fun d μ => match lenD μ d with
  | some n => .ok (.int (n : Nat)) μ
  | none => .stuck
theorem does_len {K : PySem.W.Frag} : DoesN K fLen (fun xs H Q => ∃ x n, xs = [x] ∧ LenV K x H n ∧ Q (.int n) H) := does1 fun W Q e σ μ α H d v rd h => by
  cases q : lenD μ d with
  | none => simp only [q] at h; exact h.post.elim
  | some n =>
    simp only [q] at h
    refine ⟨v, n, rfl, ?_, h.fin rp_int⟩
    unfold lenD at q
    split at q
    · cases q; rw [rp_str_iff rd]; exact ⟨rp_str_len rd, rfl⟩
    · cases q
      unfold Rp at rd
      obtain ⟨a, rfl, hf⟩ := rd
      exact .inl ⟨_, hf.sq, by rw [List.length_map]⟩
    · obtain ⟨ds, hv, rfl⟩ := Option.map_eq_some_iff.mp q
      obtain ⟨a, xs, rfl, hs, r2, _⟩ := viewS_at h.rel rd hv
      rcases hs with z | z
      · exact .inl ⟨xs, z, r2.length.symm⟩
      · exact .inr ⟨xs, z, r2.length.symm⟩
theorem d_len (hg : Gl X "len") (hm : X.mg "len" = none) (ha : PA X (e :: es) (tMA X.K W ms)) (he : starEach (e :: es) X.env = (false, eval e X.env) :: starEach es X.env := by rfl) (hpl : (backTo pos (starEach es X.env)).any (·.1) = false := by rfl) :
    PE X (.Call (.Name "len" p) (e :: es) [] pos) (tM X.K W (mCB fLen ms)) := d_callB call_len does_len hg hm boot_len ha (by decide) (by decide) he hpl
/-! abs, max, min, int -/
def fAbs : FN := f1 fun d μ => match d with
  | .int i => .ok (.int (if i < 0 then -i else i)) μ
  | _ => .stuck
def fMax : FN := f2 fun a b μ => match a, b with
  | .int i, .int j => .ok (.int (if j > i then j else i)) μ
  | _, _ => .stuck
def fMin : FN := f2 fun a b μ => match a, b with
  | .int i, .int j => .ok (.int (if j < i then j else i)) μ
  | _, _ => .stuck
def fInt : FN := f1 fun d μ => match d with
  | .int i => .ok (.int i) μ
  | _ => .stuck
theorem d_abs (hg : Gl X "abs") (hm : X.mg "abs" = none) (ha : PA X (e :: es) (tMA X.K W ms)) (he : starEach (e :: es) X.env = (false, eval e X.env) :: starEach es X.env := by rfl) (hpl : (backTo pos (starEach es X.env)).any (·.1) = false := by rfl) :
    PE X (.Call (.Name "abs" p) (e :: es) [] pos) (tM X.K W (mCB fAbs ms)) := d_callB call_abs (does1 fun W Q e σ μ α H d v rd h => by
  cases d with
  | int i => exact ⟨i, by rw [rp_int_iff rd], h.fin rp_int⟩
  | _ => exact h.post.elim) hg hm boot_abs ha (by decide) (by decide) he hpl
theorem d_max (hc : X.calm = true) (hg : Gl X "max") (hm : X.mg "max" = none) (ha : PA X (e :: es) (tMA X.K W ms)) (he : starEach (e :: es) X.env = (false, eval e X.env) :: starEach es X.env := by rfl) (hpl : (backTo pos (starEach es X.env)).any (·.1) = false := by rfl) :
    PE X (.Call (.Name "max" p) (e :: es) [] pos) (tM X.K W (mCB fMax ms)) := d_callB (call_max2 hc) (does2 fun W Q e σ μ α H d d2 v v2 rd rd2 h => by
  split at h
  · exact ⟨_, _, by rw [rp_int_iff rd, rp_int_iff rd2], h.fin rp_int⟩
  · exact h.post.elim) hg hm boot_max ha (by decide) (by decide) he hpl
theorem d_min (hc : X.calm = true) (hg : Gl X "min") (hm : X.mg "min" = none) (ha : PA X (e :: es) (tMA X.K W ms)) (he : starEach (e :: es) X.env = (false, eval e X.env) :: starEach es X.env := by rfl) (hpl : (backTo pos (starEach es X.env)).any (·.1) = false := by rfl) :
    PE X (.Call (.Name "min" p) (e :: es) [] pos) (tM X.K W (mCB fMin ms)) := d_callB (call_min2 hc) (does2 fun W Q e σ μ α H d d2 v v2 rd rd2 h => by
  split at h
  · exact ⟨_, _, by rw [rp_int_iff rd, rp_int_iff rd2], h.fin rp_int⟩
  · exact h.post.elim) hg hm boot_min ha (by decide) (by decide) he hpl
theorem d_int1 (hg : Gl X "int") (hm : X.mg "int" = none) (ha : PA X (e :: es) (tMA X.K W ms)) (he : starEach (e :: es) X.env = (false, eval e X.env) :: starEach es X.env := by rfl) (hpl : (backTo pos (starEach es X.env)).any (·.1) = false := by rfl) :
    PE X (.Call (.Name "int" p) (e :: es) [] pos) (tM X.K W (mCB fInt ms)) := d_callTy call_int1 (does1 fun W Q e σ μ α H d v rd h => by
  cases d with
  | int i => exact .inl ⟨i, by rw [rp_int_iff rd], h.fin rp_int⟩
  | _ => exact h.post.elim) hg hm PyProof.Rows.boot_int ha (by decide) (by decide) he hpl
/-! list(x), tuple(x) of lists and tuples -/
def fList : FN := f1 fun d μ => match viewS μ d with
  | some ds => .ok (.lst ds) μ
  | none => .stuck
/-- list(x) that is to be changed -/
def fListC : FN := f1 fun d μ => match viewS μ d with
  | some ds => .ok (.ref μ.length) (μ ++ [.lst ds])
  | none => .stuck
def fTuple : FN := f1 fun d μ => match viewS μ d with
  | some ds => .ok (.tup ds) μ
  | none => .stuck
theorem d_list (hg : Gl X "list") (hm : X.mg "list" = none) (ha : PA X (e :: es) (tMA X.K W ms)) (he : starEach (e :: es) X.env = (false, eval e X.env) :: starEach es X.env := by rfl) (hpl : (backTo pos (starEach es X.env)).any (·.1) = false := by rfl) :
    PE X (.Call (.Name "list" p) (e :: es) [] pos) (tM X.K W (mCB fList ms)) := d_callTy call_list_of (does1 fun W Q e σ μ α H d v rd h => by
  cases q : viewS μ d with
  | none => simp only [q] at h; exact h.post.elim
  | some ds =>
    simp only [q] at h
    obtain ⟨a, xs, rfl, hs, r2, hz⟩ := viewS_at h.rel rd q
    exact ⟨a, xs, rfl, hs, fun l hl => h.lst r2 hz hl⟩) hg hm boot_list ha (by decide) (by decide) he hpl
theorem d_listC (hg : Gl X "list") (hm : X.mg "list" = none) (ha : PA X (e :: es) (tMA X.K W ms)) (he : starEach (e :: es) X.env = (false, eval e X.env) :: starEach es X.env := by rfl) (hpl : (backTo pos (starEach es X.env)).any (·.1) = false := by rfl) :
    PE X (.Call (.Name "list" p) (e :: es) [] pos) (tM X.K W (mCB fListC ms)) := d_callTy call_list_of (does1 fun W Q e σ μ α H d v rd h => by
  cases q : viewS μ d with
  | none => simp only [q] at h; exact h.post.elim
  | some ds =>
    simp only [q] at h
    obtain ⟨a, xs, rfl, hs, r2, hz⟩ := viewS_at h.rel rd q
    exact ⟨a, xs, rfl, hs, fun l hl => h.newc r2 hz hl⟩) hg hm boot_list ha (by decide) (by decide) he hpl
theorem d_tuple (hg : Gl X "tuple") (hm : X.mg "tuple" = none) (ha : PA X (e :: es) (tMA X.K W ms)) (he : starEach (e :: es) X.env = (false, eval e X.env) :: starEach es X.env := by rfl) (hpl : (backTo pos (starEach es X.env)).any (·.1) = false := by rfl) :
    PE X (.Call (.Name "tuple" p) (e :: es) [] pos) (tM X.K W (mCB fTuple ms)) := d_callTy call_tuple_of (does1 fun W Q e σ μ α H d v rd h => by
  cases q : viewS μ d with
  | none => simp only [q] at h; exact h.post.elim
  | some ds =>
    simp only [q] at h
    cases q2 : viewT d with
    | some ds' =>
      have e1 : ds' = ds := by unfold viewS at q; rw [q2] at q; exact Option.some.inj q
      subst e1
      have e2 : d = .tup ds' := by
        unfold viewT at q2
        split at q2
        · cases q2; rfl
        · cases q2
      subst e2
      obtain ⟨a, xs, rfl, hs, r2, hz⟩ := viewT_at (ds := ds') rd rfl
      exact ⟨a, xs, rfl, .inr ⟨hs, h.fin rd⟩⟩
    | none =>
      have e1 : viewL μ d = some ds := by unfold viewS at q; rw [q2] at q; exact q
      obtain ⟨a, xs, rfl, hs, r2, hz⟩ := viewL_at h.rel rd e1
      exact ⟨a, xs, rfl, .inl ⟨.of hs, fun l hl => h.tup r2 hz hl⟩⟩) hg hm boot_tuple ha (by decide) (by decide) he hpl
/-! all, any of a list of bools -/
def blsOf : List D → Option (List Bool)
  | [] => some []
  | .bl b :: ds => (blsOf ds).map (b :: ·)
  | _ => none
theorem bls_at {K : PySem.W.Frag} {H : Hp} {α : TR} {N : Nat} : ∀ {ds : List D} {vs : List V} {bs : List Bool}, Rps K H α N ds vs → blsOf ds = some bs → vs = bs.map V.bl
  | [], vs, bs, r, h => by cases h; rw [Rps.nil_inv r]; rfl
  | d :: ds, vs, bs, r, h => by
    obtain ⟨v, us, rfl, r1, r2⟩ := Rps.cons_inv r
    unfold blsOf at h
    split at h
    · cases ‹d :: ds = []›
    · rename_i b ds' e
      cases e
      obtain ⟨cs, h1, rfl⟩ := Option.map_eq_some_iff.mp h
      rw [rp_bl_iff r1, bls_at r2 h1]; rfl
    · cases h
def fAll : FN := f1 fun d μ => match (viewL μ d).bind blsOf with
  | some bs => .ok (.bl (bs.all _root_.id)) μ
  | none => .stuck
def fAny : FN := f1 fun d μ => match (viewL μ d).bind blsOf with
  | some bs => .ok (.bl (bs.any _root_.id)) μ
  | none => .stuck
theorem d_all (hc : X.calm = true) (hg : Gl X "all") (hm : X.mg "all" = none) (ha : PA X (e :: es) (tMA X.K W ms)) (he : starEach (e :: es) X.env = (false, eval e X.env) :: starEach es X.env := by rfl) (hpl : (backTo pos (starEach es X.env)).any (·.1) = false := by rfl) :
    PE X (.Call (.Name "all" p) (e :: es) [] pos) (tM X.K W (mCB fAll ms)) := d_callB (cr_all hc) (does1 fun W Q e σ μ α H d v rd h => by
  cases q : (viewL μ d).bind blsOf with
  | none => simp only [q] at h; exact h.post.elim
  | some bs =>
    simp only [q] at h
    obtain ⟨ds, h1, h2⟩ := Option.bind_eq_some_iff.mp q
    obtain ⟨a, xs, rfl, hs, r2, hz⟩ := viewL_at h.rel rd h1
    rw [bls_at r2 h2] at hs
    exact ⟨a, bs, rfl, .of hs, h.fin rp_bl⟩) hg hm boot_all ha (by decide) (by decide) he hpl
theorem d_any (hc : X.calm = true) (hg : Gl X "any") (hm : X.mg "any" = none) (ha : PA X (e :: es) (tMA X.K W ms)) (he : starEach (e :: es) X.env = (false, eval e X.env) :: starEach es X.env := by rfl) (hpl : (backTo pos (starEach es X.env)).any (·.1) = false := by rfl) :
    PE X (.Call (.Name "any" p) (e :: es) [] pos) (tM X.K W (mCB fAny ms)) := d_callB (cr_any hc) (does1 fun W Q e σ μ α H d v rd h => by
  cases q : (viewL μ d).bind blsOf with
  | none => simp only [q] at h; exact h.post.elim
  | some bs =>
    simp only [q] at h
    obtain ⟨ds, h1, h2⟩ := Option.bind_eq_some_iff.mp q
    obtain ⟨a, xs, rfl, hs, r2, hz⟩ := viewL_at h.rel rd h1
    rw [bls_at r2 h2] at hs
    exact ⟨a, bs, rfl, .of hs, h.fin rp_bl⟩) hg hm boot_any ha (by decide) (by decide) he hpl

/-! ### methods of built-in types -/
def mBM (f : D → List D → Mem → Res D) (o : ME) (as : MA) : ME := fun e μ => (o e μ).bind fun d μ1 => (as e μ1).bind fun ds μ2 => f d ds μ2
/-- ty: what the type asks of the receiver, ahead of the arguments -/
def DoesM (K : PySem.W.Frag) (T : String) (C : Mem → D → Prop) (f : D → List D → Mem → Res D) (r : V → List V → Hp → VK → Prop) : Prop :=
  (∀ (μ : Mem) (α : TR) (H : Hp) (d : D) (v : V), Rel K μ α H → Rp K H α μ.length d v → C μ d → tyV K T v H) ∧
  ∀ (W : WS) (Q : VK) (e : En) (σ : L2.St) (μ : Mem) (α : TR) (H : Hp) (d : D) (v : V) (ds : List D) (vs : List V), Rp K H α μ.length d v → Rps K H α μ.length ds vs → At K W (RV K) Q e σ μ α H (f d ds μ) → r v vs H Q
open Classical in
def mBMc (C : Mem → D → Prop) (f : D → List D → Mem → Res D) (o : ME) (as : MA) : ME := fun e μ => (o e μ).bind fun d μ1 => if C μ1 d then (as e μ1).bind fun ds μ2 => f d ds μ2 else .stuck
variable {C : Mem → D → Prop} {fm : D → List D → Mem → Res D} {rm : V → List V → Hp → VK → Prop} {name : Str} {cpos : Pos}
theorem d_bm (pa : PlainAttrs T) (slot : Slot T name id) (hty : typeOf (.builtin id) = pure (.type "method_descriptor")) (hm : MtR X id rm) (hf : DoesM X.K T C fm rm) (ho : PE X o (tM X.K W mo)) (ha : PA X (e :: es) (tMA X.K W ms))
    (hbase : attributeBase o name X.env (eval o X.env) = eval o X.env := by rfl)
    (hfew : ((backTo cpos (starEach (e :: es) X.env)).all (fun x => !x.1) && (backToKw cpos (keywordEach [] X.env)).all (fun x => x.1.isSome)
      && decide ((e :: es).length + ([] : List Keyword).length + (if ([] : List Keyword).isEmpty then 0 else 1) < 30)) = true := by rfl)
    (hline : (apos.endLine == cpos.line) = true := by rfl) (hs : starEach (e :: es) X.env = (false, eval e X.env) :: starEach es X.env := by rfl) (hplain : (backTo cpos (starEach es X.env)).any (·.1) = false := by rfl) :
    PE X (.Call (.Attribute o name apos) (e :: es) [] cpos) (tM X.K W (mBMc C fm mo ms)) :=
  (pe_bm pa slot hty hm ho ha hbase hfew hline hs hplain).imp fun σ H Q h => by
    obtain ⟨e, μ, α, h⟩ := At.of h
    refine h.bind fun d μ1 v H1 α1 g1 r1 h1 => ?_
    by_cases c : C μ1 d
    · rw [if_pos c] at h1
      refine ⟨hf.1 _ _ _ _ _ h1.rel r1 c, h1.bind fun ds μ2 vs H2 α2 g2 r2 h2 => ?_⟩
      exact hf.2 W Q _ _ _ _ _ _ _ _ _ (Rp.go g2 r1) r2 h2
    · rw [if_neg c] at h1; exact h1.post.elim
theorem d_bm0 (pa : PlainAttrs T) (slot : Slot T name id) (hty : typeOf (.builtin id) = pure (.type "method_descriptor")) (hm : MtR X id rm) (hf : DoesM X.K T C fm rm) (ho : PE X o (tM X.K W mo))
    (hbase : attributeBase o name X.env (eval o X.env) = eval o X.env := by rfl) (hline : (apos.endLine == cpos.line) = true := by rfl) :
    PE X (.Call (.Attribute o name apos) [] [] cpos) (tM X.K W (mBMc C fm mo mNil)) :=
  (pe_bm0 pa slot hty hm ho hbase hline).imp fun σ H Q h => by
    obtain ⟨e, μ, α, h⟩ := At.of h
    refine h.bind fun d μ1 v H1 α1 g1 r1 h1 => ?_
    by_cases c : C μ1 d
    · rw [if_pos c] at h1
      exact ⟨hf.1 _ _ _ _ _ h1.rel r1 c, hf.2 W Q _ _ _ _ _ _ _ _ _ r1 Rps.nil h1⟩
    · rw [if_neg c] at h1; exact h1.post.elim
theorem mtr {id : String} {r : V → List V → Hp → VK → Prop} (h : MtM X id r) : MtR X id r := fun pins s σ H x xs v us Q I rx rs q => h pins s σ H x xs v us Q I rx rs q
/-- a list that is to be changed -/
def isCel (μ : Mem) (d : D) : Prop := ∃ n ds, d = .ref n ∧ μ[n]? = some (.lst ds)
def isTxt (_ : Mem) (d : D) : Prop := ∃ x, d = .str x
theorem ty_cel {K : PySem.W.Frag} {μ : Mem} {α : TR} {H : Hp} {d : D} {v : V} (R : Rel K μ α H) (r : Rp K H α μ.length d v) (h : isCel μ d) : tyV K "list" v H := by
  obtain ⟨n, ds, rfl, q⟩ := h
  obtain ⟨a, xs, rfl, hs, _⟩ := viewL_at (ds := ds) R r (by simp only [viewL, q])
  exact .inl ⟨rfl, xs, .of hs⟩
theorem ty_txt {K : PySem.W.Frag} {μ : Mem} {α : TR} {H : Hp} {d : D} {v : V} (R : Rel K μ α H) (r : Rp K H α μ.length d v) (h : isTxt μ d) : tyV K "str" v H := by
  obtain ⟨x, rfl⟩ := h
  rw [rp_str_iff r]
  rfl
/-- a cell's list is written -/
theorem At.wr {K : PySem.W.Frag} {Q : VK} {e : En} {σ : L2.St} {μ : Mem} {α : TR} {H : Hp} {n : Nat} {a : Addr} {xs0 xs : List V} {ds : List D} {d : D} {v : V} (h : At K W (RV K) Q e σ μ α H (.ok d (μ.set n (.lst ds)))) (ha : α.m n = some a) (h0 : H a = some (.lst xs0)) (rs : Rps K H α μ.length ds xs) (hz : ds.length ≤ sizeLine) (r : Rp K H α μ.length d v) : Q v (upd H a (.lst xs)) := by
  have hl : (μ.set n (Cell.lst ds)).length = μ.length := List.length_set
  have g : Go H α μ.length (upd H a (.lst xs)) α μ.length := Go.write h.rel ha
  refine h.post _ _ α (by rw [hl]; exact g) (h.rel.write ha (fun x z => by rw [h0] at z; cases z) ⟨hz, a, xs, ha, upd_same, Rps.go g rs⟩) ?_
  show Rp _ _ _ _ _ _
  rw [hl]
  exact Rp.go g r
theorem cel_at {K : PySem.W.Frag} {μ : Mem} {α : TR} {H : Hp} {n : Nat} {v : V} {ds : List D} (R : Rel K μ α H) (r : Rp K H α μ.length (.ref n) v) (q : μ[n]? = some (.lst ds)) : ∃ a xs, α.m n = some a ∧ v = .ref a ∧ H a = some (.lst xs) ∧ Rps K H α μ.length ds xs ∧ ds.length ≤ sizeLine := by
  obtain ⟨z, a, xs, h1, h2, h3⟩ := R.cell n _ q
  unfold Rp at r
  exact ⟨a, xs, h1, r.2 a h1, h2, h3, z⟩
def celF (g : List D → List D → Mem → Option (List D × D)) : D → List D → Mem → Res D := fun d as μ => match d with
  | .ref n => match μ[n]? with
    | some (.lst ds) => match g ds as μ with
      | some (ds', r) => .ok r (μ.set n (.lst ds'))
      | none => .stuck
    | _ => .stuck
  | _ => .stuck
def gAppend : List D → List D → Mem → Option (List D × D) := fun ds as _ => match as with
  | [d] => if ds.length < 16777216 then some (ds ++ [d], .non) else none
  | _ => none
def gExtend : List D → List D → Mem → Option (List D × D) := fun ds as μ => match as with
  | [d] => match viewL μ d with
    | some es => if ds.length + es.length ≤ 16777216 then some (ds ++ es, .non) else none
    | none => none
  | _ => none
def gPop : List D → List D → Mem → Option (List D × D) := fun ds as _ => match as with
  | [] => (ds[ds.length - 1]?).map fun d => (ds.dropLast, d)
  | _ => none
theorem does_append {K : PySem.W.Frag} : DoesM K "list" isCel (celF gAppend) rAppend := by
  refine ⟨fun _ _ _ _ _ => ty_cel, fun W Q e σ μ α H d v ds vs rd rs h => ?_⟩
  unfold celF at h
  split at h
  · rename_i n
    split at h
    · rename_i es q
      split at h
      · rename_i ds' r0 q2
        obtain ⟨a, xs, ha, rfl, h0, rx, hz⟩ := cel_at h.rel rd q
        unfold gAppend at q2
        split at q2
        · rename_i d1
          split at q2
          · rename_i c
            cases q2
            obtain ⟨v1, rfl, r1⟩ := rps1 rs
            exact ⟨a, xs, v1, rfl, rfl, h0, by rw [rx.length, sizeLine_eq]; exact c, h.wr ha h0 (rx.append (Rps.cons r1 Rps.nil)) (by rw [List.length_append, sizeLine_eq]; exact c) rp_non⟩
          · cases q2
        · cases q2
      · exact h.post.elim
    · exact h.post.elim
  · exact h.post.elim
theorem does_extend {K : PySem.W.Frag} : DoesM K "list" isCel (celF gExtend) rExtend := by
  refine ⟨fun _ _ _ _ _ => ty_cel, fun W Q e σ μ α H d v ds vs rd rs h => ?_⟩
  unfold celF at h
  split at h
  · rename_i n
    split at h
    · rename_i es q
      split at h
      · rename_i ds' r0 q2
        obtain ⟨a, xs, ha, rfl, h0, rx, hz⟩ := cel_at h.rel rd q
        unfold gExtend at q2
        split at q2
        · rename_i d1
          split at q2
          · rename_i es2 hv
            split at q2
            · rename_i c
              cases q2
              obtain ⟨v1, rfl, r1⟩ := rps1 rs
              obtain ⟨b, ys, rfl, hb, r2, hz2⟩ := viewL_at h.rel r1 hv
              exact ⟨a, b, xs, ys, rfl, rfl, h0, hb, by rw [rx.length, r2.length, sizeLine_eq]; exact c, h.wr ha h0 (rx.append r2) (by rw [List.length_append, sizeLine_eq]; exact c) rp_non⟩
            · cases q2
          · cases q2
        · cases q2
      · exact h.post.elim
    · exact h.post.elim
  · exact h.post.elim
theorem does_pop {K : PySem.W.Frag} : DoesM K "list" isCel (celF gPop) rPop := by
  refine ⟨fun _ _ _ _ _ => ty_cel, fun W Q e σ μ α H d v ds vs rd rs h => ?_⟩
  unfold celF at h
  split at h
  · rename_i n
    split at h
    · rename_i es q
      split at h
      · rename_i ds' r0 q2
        obtain ⟨a, xs, ha, rfl, h0, rx, hz⟩ := cel_at h.rel rd q
        unfold gPop at q2
        split at q2
        · obtain ⟨d1, h1, h2⟩ := Option.map_eq_some_iff.mp q2
          cases h2
          rw [Rps.nil_inv rs]
          obtain ⟨u, hu, ru⟩ := rx.get h1
          exact ⟨a, xs, u, rfl, rfl, h0, by rw [rx.length]; exact hu, h.wr ha h0 rx.dropLast (by rw [List.length_dropLast]; omega) ru⟩
        · cases q2
      · exact h.post.elim
    · exact h.post.elim
  · exact h.post.elim
theorem d_append (ho : PE X o (tM X.K W mo)) (ha : PA X (e :: es) (tMA X.K W ms)) (hbase : attributeBase o "append" X.env (eval o X.env) = eval o X.env := by rfl)
    (hfew : ((backTo cpos (starEach (e :: es) X.env)).all (fun x => !x.1) && (backToKw cpos (keywordEach [] X.env)).all (fun x => x.1.isSome) && decide ((e :: es).length + ([] : List Keyword).length + (if ([] : List Keyword).isEmpty then 0 else 1) < 30)) = true := by rfl)
    (hline : (apos.endLine == cpos.line) = true := by rfl) (hs : starEach (e :: es) X.env = (false, eval e X.env) :: starEach es X.env := by rfl) (hplain : (backTo cpos (starEach es X.env)).any (·.1) = false := by rfl) :
    PE X (.Call (.Attribute o "append" apos) (e :: es) [] cpos) (tM X.K W (mBMc isCel (celF gAppend) mo ms)) := d_bm PySem.F.plainAttrs_list PySem.F.slot_list_append PySem.F.type_list_append (mtr mt_append) does_append ho ha hbase hfew hline hs hplain
theorem d_extend (ho : PE X o (tM X.K W mo)) (ha : PA X (e :: es) (tMA X.K W ms)) (hbase : attributeBase o "extend" X.env (eval o X.env) = eval o X.env := by rfl)
    (hfew : ((backTo cpos (starEach (e :: es) X.env)).all (fun x => !x.1) && (backToKw cpos (keywordEach [] X.env)).all (fun x => x.1.isSome) && decide ((e :: es).length + ([] : List Keyword).length + (if ([] : List Keyword).isEmpty then 0 else 1) < 30)) = true := by rfl)
    (hline : (apos.endLine == cpos.line) = true := by rfl) (hs : starEach (e :: es) X.env = (false, eval e X.env) :: starEach es X.env := by rfl) (hplain : (backTo cpos (starEach es X.env)).any (·.1) = false := by rfl) :
    PE X (.Call (.Attribute o "extend" apos) (e :: es) [] cpos) (tM X.K W (mBMc isCel (celF gExtend) mo ms)) := d_bm PySem.F.plainAttrs_list PySem.F.slot_list_extend PySem.F.type_list_extend (mtr mt_extend) does_extend ho ha hbase hfew hline hs hplain
theorem d_pop (ho : PE X o (tM X.K W mo)) (hbase : attributeBase o "pop" X.env (eval o X.env) = eval o X.env := by rfl) (hline : (apos.endLine == cpos.line) = true := by rfl) :
    PE X (.Call (.Attribute o "pop" apos) [] [] cpos) (tM X.K W (mBMc isCel (celF gPop) mo mNil)) := d_bm0 PySem.F.plainAttrs_list PySem.F.slot_list_pop PySem.F.type_list_pop (mtr mt_pop) does_pop ho hbase hline
/-! texts -/
def txtF (g : Str → List D → Mem → Option D) : D → List D → Mem → Res D := fun d as μ => match d with
  | .str x => match g x as μ with
    | some r => .ok r μ
    | none => .stuck
  | _ => .stuck
/-- the texts of a list -/
def strsOf : List D → Option (List Str)
  | [] => some []
  | .str b :: ds => (strsOf ds).map (b :: ·)
  | _ => none
theorem strs_at {K : PySem.W.Frag} {H : Hp} {α : TR} {N : Nat} : ∀ {ds : List D} {vs : List V} {bs : List Str}, Rps K H α N ds vs → strsOf ds = some bs → vs = bs.map V.str
  | [], vs, bs, r, h => by cases h; rw [Rps.nil_inv r]; rfl
  | d :: ds, vs, bs, r, h => by
    obtain ⟨v, us, rfl, r1, r2⟩ := Rps.cons_inv r
    unfold strsOf at h
    split at h
    · cases ‹d :: ds = []›
    · rename_i b ds' e
      cases e
      obtain ⟨cs, h1, rfl⟩ := Option.map_eq_some_iff.mp h
      rw [rp_str_iff r1, strs_at r2 h1]; rfl
    · cases h
theorem strs_rp {K : PySem.W.Frag} {H : Hp} {α : TR} {N : Nat} : ∀ {bs : List Str}, (∀ b ∈ bs, b.length ≤ sizeLine) → Rps K H α N (bs.map D.str) (bs.map V.str)
  | [], _ => Rps.nil
  | b :: bs, h => Rps.cons (rp_str (h b List.mem_cons_self)) (strs_rp fun c hc => h c (List.mem_cons_of_mem _ hc))
def gJoin : Str → List D → Mem → Option D := fun x as μ => match as with
  | [d] => match (viewS μ d).bind strsOf with
    | some ys => if (ys.map (·.length)).sum + ys.length * x.length ≤ 16777216 ∧ (Txt.join x ys).length ≤ 16777216 then some (.str (Txt.join x ys)) else none
    | none => none
  | _ => none
theorem does_join {K : PySem.W.Frag} : DoesM K "str" isTxt (txtF gJoin) (fun x xs H Q => ∃ a p, ∃ ys : List Str, x = .str a ∧ xs = [.ref p] ∧ (SqL K H p (ys.map V.str) ∨ SqT K H p (ys.map V.str)) ∧
    (ys.map (·.length)).sum + ys.length * a.length ≤ 16777216 ∧ Q (.str (Txt.join a ys)) H) := by
  refine ⟨fun _ _ _ _ _ => ty_txt, fun W Q e σ μ α H d v ds vs rd rs h => ?_⟩
  unfold txtF at h
  split at h
  · rename_i x
    split at h
    · rename_i r0 q
      unfold gJoin at q
      split at q
      · rename_i d1
        split at q
        · rename_i ys hv
          split at q
          · rename_i c
            cases q
            obtain ⟨v1, rfl, r1⟩ := rps1 rs
            obtain ⟨es, h1, h2⟩ := Option.bind_eq_some_iff.mp hv
            obtain ⟨b, us, rfl, hb, r2, hz2⟩ := viewS_at h.rel r1 h1
            rw [strs_at r2 h2] at hb
            exact ⟨x, b, ys, rp_str_iff rd, rfl, hb, c.1, h.fin (rp_str (line_of c.2))⟩
          · cases q
        · cases q
      · cases q
    · exact h.post.elim
  · exact h.post.elim
theorem d_join (ho : PE X o (tM X.K W mo)) (ha : PA X (e :: es) (tMA X.K W ms)) (hbase : attributeBase o "join" X.env (eval o X.env) = eval o X.env := by rfl)
    (hfew : ((backTo cpos (starEach (e :: es) X.env)).all (fun x => !x.1) && (backToKw cpos (keywordEach [] X.env)).all (fun x => x.1.isSome) && decide ((e :: es).length + ([] : List Keyword).length + (if ([] : List Keyword).isEmpty then 0 else 1) < 30)) = true := by rfl)
    (hline : (apos.endLine == cpos.line) = true := by rfl) (hs : starEach (e :: es) X.env = (false, eval e X.env) :: starEach es X.env := by rfl) (hplain : (backTo cpos (starEach es X.env)).any (·.1) = false := by rfl) :
    PE X (.Call (.Attribute o "join" apos) (e :: es) [] cpos) (tM X.K W (mBMc isTxt (txtF gJoin) mo ms)) := d_bm PySem.F.plainAttrs_str PySem.F.slot_str_join PySem.F.type_str_join mt_join does_join ho ha hbase hfew hline hs hplain
end
end MP
end
set_option Elab.async false
set_option linter.all false
set_option maxRecDepth 100000
set_option maxHeartbeats 1000000
noncomputable section
namespace MP
open PySem PySem.Spec PyProof.Rows L2
/-! ### statements -/
inductive Fl where
  | nx (e : En) | rt (d : D) | bk (e : En) | ct (e : En)
abbrev MS := En → Mem → Res Fl
def PostS (K : PySem.W.Frag) (W : WS) (D : Ends) (H : Hp) (α : TR) (N : Nat) : Res Fl → Prop
  | .ok (.nx e) μ' => ∀ σ' H' α', Go H α N H' α' μ'.length → Rel K μ' α' H' → EnR K H' α' μ'.length e σ' → W.S σ' H' α' μ'.length → D.nx σ' H'
  | .ok (.bk e) μ' => ∀ σ' H' α', Go H α N H' α' μ'.length → Rel K μ' α' H' → EnR K H' α' μ'.length e σ' → W.S σ' H' α' μ'.length → D.bk σ' H'
  | .ok (.ct e) μ' => ∀ σ' H' α', Go H α N H' α' μ'.length → Rel K μ' α' H' → EnR K H' α' μ'.length e σ' → W.S σ' H' α' μ'.length → D.ct σ' H'
  | .ok (.rt d) μ' => ∀ v H' α', Go H α N H' α' μ'.length → Rel K μ' α' H' → Rp K H' α' μ'.length d v → D.rt v H'
  | .exc C x e μ' => PostX K W H α N C x e μ'
  | .stuck => False
theorem PostS.go {K : PySem.W.Frag} {W : WS} {D : Ends} {H H1 : Hp} {α α1 : TR} {N N1 : Nat} {r : Res Fl} (g : Go H α N H1 α1 N1) (p : PostS K W D H α N r) : PostS K W D H1 α1 N1 r := by
  cases r with
  | ok f μ' => cases f with
    | nx e => exact fun v H' α' g' => p v H' α' (g.trans g')
    | bk e => exact fun v H' α' g' => p v H' α' (g.trans g')
    | ct e => exact fun v H' α' g' => p v H' α' (g.trans g')
    | rt e => exact fun v H' α' g' => p v H' α' (g.trans g')
  | exc C x e μ' => exact PostX.go g p
  | stuck => exact p
def tMS (K : PySem.W.Frag) (W : WS) (m : MS) : TS := fun D σ H => ∃ e μ α, EnR K H α μ.length e σ ∧ Rel K μ α H ∧ W.S σ H α μ.length ∧ PostS K W D H α μ.length (m e μ)
structure AtS (K : PySem.W.Frag) (W : WS) (D : Ends) (e : En) (σ : L2.St) (μ : Mem) (α : TR) (H : Hp) (r : Res Fl) : Prop where
  en : EnR K H α μ.length e σ
  rel : Rel K μ α H
  sd : W.S σ H α μ.length
  post : PostS K W D H α μ.length r
section
variable {K : PySem.W.Frag} {W : WS}
theorem AtS.of {D : Ends} {σ : L2.St} {H : Hp} {m : MS} (h : tMS K W m D σ H) : ∃ e μ α, AtS K W D e σ μ α H (m e μ) := let ⟨e, μ, α, a, b, c, d⟩ := h; ⟨e, μ, α, a, b, c, d⟩
theorem AtS.t {D : Ends} {e : En} {σ : L2.St} {μ : Mem} {α : TR} {H : Hp} {m : MS} (h : AtS K W D e σ μ α H (m e μ)) : tMS K W m D σ H := ⟨e, μ, α, h.en, h.rel, h.sd, h.post⟩
/-- an expression ahead -/
theorem AtS.bind {β γ : Type} {R : Hp → TR → Nat → β → γ → Prop} {D : Ends} {Q : γ → Hp → Prop} {e : En} {σ : L2.St} {μ : Mem} {α : TR} {H : Hp} {m : En → Mem → Res β} {k : β → Mem → Res Fl}
    (h : AtS K W D e σ μ α H ((m e μ).bind k)) (hq : ∀ d μ1 v H1 α1, Go H α μ.length H1 α1 μ1.length → R H1 α1 μ1.length d v → AtS K W D e σ μ1 α1 H1 (k d μ1) → Q v H1) : tX K W R m σ H Q := by
  refine ⟨e, μ, α, h.en, h.rel, h.sd, ?_⟩
  have p := h.post
  cases q : m e μ with
  | ok d μ1 =>
    rw [q] at p
    exact fun v H1 α1 g rel r => hq d μ1 v H1 α1 g r ⟨h.en.go g, rel, W.ge g.ge h.sd, p.go g⟩
  | exc C x e' μ1 => rw [q] at p; exact p
  | stuck => rw [q] at p; exact p
theorem AtS.nx {D : Ends} {e e' : En} {σ σ' : L2.St} {μ : Mem} {α : TR} {H : Hp} (h : AtS K W D e σ μ α H (.ok (.nx e') μ)) (r : EnR K H α μ.length e' σ') (hs : W.S σ' H α μ.length) : D.nx σ' H := h.post σ' H α .refl h.rel r hs
/-- statements one after another -/
def Res.seq (r : Res Fl) (k : MS) : Res Fl := match r with
  | .ok (.nx e) μ => k e μ
  | r => r
def mSeq (a b : MS) : MS := fun e μ => (a e μ).seq b
def mNext : MS := fun e μ => .ok (.nx e) μ
theorem t_seq {a b : MS} {D : Ends} {σ : L2.St} {H : Hp} (h : tMS K W (mSeq a b) D σ H) : tSeq (tMS K W a) (tMS K W b) D σ H := by
  obtain ⟨e, μ, α, h⟩ := AtS.of h
  refine ⟨e, μ, α, h.en, h.rel, h.sd, ?_⟩
  have p := h.post
  unfold mSeq at p
  cases q : a e μ with
  | ok f μ1 =>
    rw [q] at p
    cases f with
    | nx e1 => exact fun σ' H' α' g rel en sd => ⟨e1, μ1, α', en, rel, sd, p.go g⟩
    | bk e1 => exact p
    | ct e1 => exact p
    | rt d => exact p
  | exc C x e' μ1 => rw [q] at p; exact p
  | stuck => rw [q] at p; exact p
end
section
variable {X : Cx} {W : WS} {st : Stmt} {rest : List Stmt} {m m2 : MS} {pos : Pos} {e a : Expr} {ma : ME}
theorem s_nil : PSs X [] (tMS X.K W mNext) := pss_nil.imp fun D σ H h => by
  obtain ⟨e, μ, α, h⟩ := AtS.of h
  exact h.nx h.en h.sd
theorem s_cons (h1 : PS X st (tMS X.K W m)) (h2 : PSs X rest (tMS X.K W m2)) : PSs X (st :: rest) (tMS X.K W (mSeq m m2)) := (pss_cons h1 h2).imp fun D σ H h => t_seq h
theorem s_one (h1 : PS X st (tMS X.K W m)) : PSs X [st] (tMS X.K W m) := pss_one h1
theorem d_pass : PS X (.Pass pos) (tMS X.K W mNext) := ps_pass.imp fun D σ H h => by
  obtain ⟨e, μ, α, h⟩ := AtS.of h
  exact h.nx h.en h.sd
def mBrk : MS := fun e μ => .ok (.bk e) μ
def mCnt : MS := fun e μ => .ok (.ct e) μ
theorem d_brk : PS X (.Break pos) (tMS X.K W mBrk) := ps_break.imp fun D σ H h => by
  obtain ⟨e, μ, α, h⟩ := AtS.of h
  exact h.post σ H α .refl h.rel h.en h.sd
theorem d_cnt : PS X (.Continue pos) (tMS X.K W mCnt) := ps_continue.imp fun D σ H h => by
  obtain ⟨e, μ, α, h⟩ := AtS.of h
  exact h.post σ H α .refl h.rel h.en h.sd
def mStuck : MS := fun _ _ => .stuck
/-- code that is never come to -/
theorem d_never : PS X st (tMS X.K W mStuck) := ps_never.imp fun D σ H h => by
  obtain ⟨e, μ, α, h⟩ := AtS.of h
  exact h.post
def mRet (a : ME) : MS := fun e μ => (a e μ).bind fun d μ1 => .ok (.rt d) μ1
theorem d_ret (he : PE X e (tM X.K W ma)) : PS X (.Return (some e) pos) (tMS X.K W (mRet ma)) := (ps_ret he).imp fun D σ H h => by
  obtain ⟨e, μ, α, h⟩ := AtS.of h
  exact h.bind fun d μ1 v H1 α1 g r h1 => h1.post v H1 α1 .refl h1.rel r
def mRetN : MS := fun e μ => .ok (.rt .non) μ
theorem d_retN : PS X (.Return none pos) (tMS X.K W mRetN) := ps_retN.imp fun D σ H h => by
  obtain ⟨e, μ, α, h⟩ := AtS.of h
  exact h.post .non H α .refl h.rel rp_non
def mEx (a : ME) : MS := fun e μ => (a e μ).bind fun _ μ1 => .ok (.nx e) μ1
theorem d_expr (he : PE X e (tM X.K W ma)) (hs : swapsWith e none pos.line X.env = pure false := by rfl) : PS X (.Expr e pos) (tMS X.K W (mEx ma)) := (ps_expr he hs).imp fun D σ H h => by
  obtain ⟨e, μ, α, h⟩ := AtS.of h
  exact h.bind (R := RV X.K) fun d μ1 v H1 α1 g r h1 => h1.nx h1.en h1.sd
def mIfS (t : MT) (a b : MS) : MS := fun e μ => (t e μ).bind fun k μ1 => if k = true then a e μ1 else b e μ1
theorem d_ifS {t : Expr} {p q : List Stmt} {mt : MT} (ht : PT X t (tMT X.K W mt)) (ha : PSs X p (tMS X.K W m)) (hb : PSs X q (tMS X.K W m2)) : PS X (.If t p q pos) (tMS X.K W (mIfS mt m m2)) := (ps_if ht ha hb).imp fun D σ H h => by
  obtain ⟨e, μ, α, h⟩ := AtS.of h
  refine h.bind fun d μ1 v H1 α1 g r h1 => ?_
  cases r
  cases d with
  | true => exact h1.t
  | false => exact h1.t
/-! ### targets -/
abbrev MG := D → En → Mem → Res En
def RE (K : PySem.W.Frag) (W : WS) : Hp → TR → Nat → En → L2.St → Prop := fun H α N e σ => EnR K H α N e σ ∧ W.S σ H α N
def tMG (K : PySem.W.Frag) (W : WS) (g : MG) : TG := fun v σ H Q => ∃ d e μ α, Rp K H α μ.length d v ∧ EnR K H α μ.length e σ ∧ Rel K μ α H ∧ W.S σ H α μ.length ∧ Post K W H α μ.length (RE K W) Q (g d e μ)
def tMGs (K : PySem.W.Frag) (W : WS) (g : List D → En → Mem → Res En) : TGs := fun vs σ H Q => ∃ ds e μ α, Rps K H α μ.length ds vs ∧ EnR K H α μ.length e σ ∧ Rel K μ α H ∧ W.S σ H α μ.length ∧ Post K W H α μ.length (RE K W) Q (g ds e μ)
def oName (i : Nat) : MG := fun d e μ => .ok (e.set i (some d)) μ
theorem g_name {i : Nat} {x : Str} (hh : i ∉ W.held) (hN : X.N.Nodup) (hi : X.N[i]? = some x) (hx : Loc X.env.scope x) (hf : X.fn x = true ∨ X.env.scope.names.lookup x = some .local := by first | exact .inl rfl | exact .inr rfl | assumption) : PG X (.Name x pos) (tMG X.K W (oName i)) :=
  ⟨fun pins s σ H v u Q I r h => (pg_name hN hi hx hf).run pins s σ H v u Q I r (by
    obtain ⟨d, e, μ, α, rd, en, rel, sd, p⟩ := h
    exact p _ _ _ .refl rel ⟨en.set rd i, W.set hh sd⟩)⟩
def oNil : List D → En → Mem → Res En := fun ds e μ => match ds with
  | [] => .ok e μ
  | _ => .stuck
def oCons (g : MG) (gs : List D → En → Mem → Res En) : List D → En → Mem → Res En := fun ds e μ => match ds with
  | d :: r => (g d e μ).bind fun e1 μ1 => gs r e1 μ1
  | [] => .stuck
theorem gs_nil : PGs X [] (tMGs X.K W oNil) := ⟨fun pins s σ H vs us Q I r h => pgs_nil.run pins s σ H vs us Q I r (by
  obtain ⟨ds, e, μ, α, rd, en, rel, sd, p⟩ := h
  unfold oNil at p
  cases ds with
  | nil => exact ⟨Rps.nil_inv rd, p _ _ _ .refl rel ⟨en, sd⟩⟩
  | cons d ds => exact p.elim)⟩
theorem gs_cons {es : List Expr} {g : MG} {gs : List D → En → Mem → Res En} (h1 : PG X e (tMG X.K W g)) (h2 : PGs X es (tMGs X.K W gs)) (hs : (assignEach (e :: es) X.env).map (·.2) = assign e X.env :: (assignEach es X.env).map (·.2) := by rfl) : PGs X (e :: es) (tMGs X.K W (oCons g gs)) :=
  ⟨fun pins s σ H vs us Q I r h => (pgs_cons h1 h2 hs).run pins s σ H vs us Q I r (by
    obtain ⟨ds, e, μ, α, rd, en, rel, sd, p⟩ := h
    unfold oCons at p
    cases ds with
    | nil => exact p.elim
    | cons d ds =>
      obtain ⟨v, ws, rfl, r1, r2⟩ := Rps.cons_inv rd
      refine ⟨v, ws, rfl, d, e, μ, α, r1, en, rel, sd, ?_⟩
      dsimp only at p
      cases q : g d e μ with
      | ok e1 μ1 =>
        rw [q] at p
        exact fun σ1 H1 α1 g1 rel1 en1 => ⟨ds, e1, μ1, α1, Rps.go g1 r2, en1.1, rel1, en1.2, p.go g1⟩
      | exc C x e' μ1 => rw [q] at p; exact p
      | stuck => rw [q] at p; exact p)⟩
/-- (a, b, ..) = a tuple -/
def oTup (n : Nat) (gs : List D → En → Mem → Res En) : MG := fun d e μ => match d with
  | .tup ds => if ds.length = n then gs ds e μ else .stuck
  | _ => .stuck
theorem g_tup {es : List Expr} {k n : Nat} {gs : List D → En → Mem → Res En} (hc : X.calm = true) (h : PGs X es (tMGs X.K W gs)) (hn : (assignEach es X.env).length = n := by rfl) (hst : (assignEach es X.env).findIdx? (·.1) = none := by rfl) : PG X (.Tuple es k pos) (tMG X.K W (oTup n gs)) :=
  ⟨fun pins s σ H v u Q I r hm => (pg_tup hc h hn hst).run pins s σ H v u Q I r (by
    obtain ⟨d, e, μ, α, rd, en, rel, sd, p⟩ := hm
    unfold oTup at p
    split at p
    · rename_i ds
      split at p
      · rename_i c
        obtain ⟨a, xs, rfl, ha, r2, _⟩ := viewT_at (ds := ds) rd rfl
        exact ⟨a, xs, rfl, ha, by rw [r2.length]; exact c, ds, e, μ, α, r2, en, rel, sd, p⟩
      · exact p.elim
    · exact p.elim)⟩
/-- target = value -/
def mAsg (a : ME) (g : MG) : MS := fun e μ => (a e μ).bind fun d μ1 => (g d e μ1).bind fun e1 μ2 => .ok (.nx e1) μ2
theorem t_asg {g : MG} {D : Ends} {σ : L2.St} {H : Hp} {K : PySem.W.Frag} (h : tMS K W (mAsg ma g) D σ H) : tAsg (tM K W ma) (tMG K W g) D σ H := by
  obtain ⟨e, μ, α, h⟩ := AtS.of h
  refine h.bind fun d μ1 v H1 α1 g1 r h1 => ⟨d, e, μ1, α1, r, h1.en, h1.rel, h1.sd, ?_⟩
  have p := h1.post
  cases q : g d e μ1 with
  | ok e1 μ2 =>
    rw [q] at p
    exact fun σ' H' α' g' rel en => p σ' H' α' g' rel en.1 en.2
  | exc C x e' μ1 => rw [q] at p; exact p
  | stuck => rw [q] at p; exact p
theorem d_asg {tg : Expr} {g : MG} (he : PE X e (tM X.K W ma)) (hg : PG X tg (tMG X.K W g)) (hs : swapsWithSole [tg] e pos.line X.env = pure false := by rfl) (hw : swappedStores [tg] e X.env = pure none := by rfl)
    (h1 : (assignEach [tg] X.env).map (·.2) = [assign tg X.env] := by rfl) : PS X (.Assign [tg] e pos) (tMS X.K W (mAsg ma g)) := (ps_asg he hg hs hw h1).imp fun D σ H h => t_asg h
theorem d_set {i : Nat} {x : Str} {pos' : Pos} (hh : i ∉ W.held) (hN : X.N.Nodup) (hi : X.N[i]? = some x) (hx : Loc X.env.scope x) (he : PE X e (tM X.K W ma)) (hs : swapsWith e (some (.Name x pos')) pos.line X.env = pure false := by rfl) (hf : X.fn x = true ∨ X.env.scope.names.lookup x = some .local := by first | exact .inl rfl | exact .inr rfl | assumption) :
    PS X (.Assign [.Name x pos'] e pos) (tMS X.K W (mAsg ma (oName i))) := (ps_set hN hi hx he hs hf).imp fun D σ H h => by
  obtain ⟨e, μ, α, h⟩ := AtS.of h
  refine h.bind (R := RV X.K) fun d μ1 v H1 α1 g1 r h1 => ?_
  exact h1.nx (h1.en.set r i) (W.set hh h1.sd)
/-- a, b = x, y: both values, then the names -/
def mPar (i j : Nat) (a b : ME) : MS := fun e μ => (a e μ).bind fun d μ1 => (b e μ1).bind fun d2 μ2 => .ok (.nx ((e.set i (some d)).set j (some d2))) μ2
theorem d_par {i j : Nat} {x y : Str} {b : Expr} {mb : ME} {px py pt : Pos} {kt k2 pt2} (hh : i ∉ W.held) (hh2 : j ∉ W.held) (hc : X.calm = true) (hN : X.N.Nodup) (hi : X.N[i]? = some x) (hj : X.N[j]? = some y) (hij : i ≠ j)
    (hx : X.env.scope.names.lookup x = some .local) (hy : X.env.scope.names.lookup y = some .local) (ha : PE X a (tM X.K W ma)) (hb : PE X b (tM X.K W mb))
    (hw : swappedStores [.Tuple [.Name x px, .Name y py] kt pt] (.Tuple [a, b] k2 pt2) X.env = pure (some [x, y]))
    (he : starEach (a :: [b]) X.env = (false, eval a X.env) :: starEach [b] X.env := by rfl) (he2 : starEach [b] X.env = (false, eval b X.env) :: starEach [] X.env := by rfl)
    (hs : swapsWithSole [.Tuple [.Name x px, .Name y py] kt pt] (.Tuple [a, b] k2 pt2) pos.line X.env = pure false := by rfl) :
    PS X (.Assign [.Tuple [.Name x px, .Name y py] kt pt] (.Tuple [a, b] k2 pt2) pos) (tMS X.K W (mPar i j ma mb)) :=
  (ps_par hc hN hi hj hij hx hy (pa_cons ha (pa_cons hb pa_nil he2) he) hw hs).imp fun D σ H h => by
    obtain ⟨e, μ, α, h⟩ := AtS.of h
    refine h.bind (R := RV X.K) fun d μ1 v H1 α1 g1 r h1 => ?_
    refine h1.bind (R := RV X.K) fun d2 μ2 v2 H2 α2 g2 r2 h2 => ?_
    exact ⟨v, v2, rfl, h2.nx ((h2.en.set (Rp.go g2 r) i).set r2 j) (W.set hh2 (W.set hh h2.sd))⟩
/-- o[i] = v, o a list that is to be changed -/
def oSub (o i : ME) : MG := fun d e μ => (o e μ).bind fun x μ1 => (i e μ1).bind fun y μ2 => match x, y with
  | .ref n, .int k => match μ2[n]? with
    | some (.lst ds) => match ixN ds.length k with
      | some j => .ok e (μ2.set n (.lst (ds.set j d)))
      | none => .stuck
    | _ => .stuck
  | _, _ => .stuck
theorem g_sub {o i : Expr} {mo mi : ME} (ho : PE X o (tM X.K W mo)) (hi : PE X i (tM X.K W mi))
    (ha : ∀ v, assign (.Subscript o i pos) X.env v = (do
      let ov ← holding [v] (eval o X.env)
      let iv ← holding [v, ov] (eval i X.env)
      standAt pos
      holding [v, ov, iv] (setItem ov iv v)
      release [v, ov, iv] []) := by intro _; rfl) : PG X (.Subscript o i pos) (tMG X.K W (oSub mo mi)) :=
  ⟨fun pins s σ H v u Q I r hm => (pg_sub ho hi set_list ha).run pins s σ H v u Q I r (by
    obtain ⟨d, e, μ, α, rd, en, rel, sd, p⟩ := hm
    have h : At X.K W (RE X.K W) (fun σ' H' => Q σ' H') e σ μ α H (oSub mo mi d e μ) := ⟨en, rel, sd, p⟩
    unfold oSub at h
    refine h.bind (R := RV X.K) fun x μ1 w H1 α1 g1 r1 h1 => ?_
    refine h1.bind (R := RV X.K) fun y μ2 z H2 α2 g2 r2 h2 => ?_
    split at h2
    · rename_i n k
      split at h2
      · rename_i ds q
        split at h2
        · rename_i j hj
          have rw_ := Rp.go g2 r1
          obtain ⟨a, xs, ha', rfl, h0, rx, hz⟩ := cel_at h2.rel rw_ q
          refine ⟨a, xs, k, j, rfl, rp_int_iff r2, h0, by rw [rx.length]; exact hj, ?_⟩
          have rd2 := Rp.go g2 (Rp.go g1 rd)
          have hl : (μ2.set n (Cell.lst (ds.set j d))).length = μ2.length := List.length_set
          have gw : Go H2 α2 μ2.length (upd H2 a (.lst (xs.set j v))) α2 μ2.length := Go.write h2.rel ha'
          exact h2.post σ _ α2 (by rw [hl]; exact gw) (h2.rel.write ha' (fun x z => by rw [h0] at z; cases z) ⟨by rw [List.length_set]; exact hz, a, _, ha', upd_same, Rps.go gw (Rps.set rd2 j rx)⟩) (by show EnR _ _ _ _ _ _ ∧ _; rw [hl]; exact ⟨h2.en.go gw, W.ge gw.ge h2.sd⟩)
        · exact h2.post.elim
      · exact h2.post.elim
    · exact h2.post.elim)⟩
end
end MP
end
set_option Elab.async false
set_option linter.all false
set_option maxRecDepth 100000
set_option maxHeartbeats 1000000
noncomputable section
namespace MP
open PySem PySem.Spec PyProof.Rows L2
/-! ### iter(v), by values -/
abbrev RIt := V → Hp → (It → Hp → Prop) → Prop
def ItR (X : Cx) (tg : Expr) (r : RIt) : Prop := ∀ (pins : List (Addr × Obj)) (s : Shared) (σ : L2.St) (H : Hp) (x : V) (v : Value) (R : It → Hp → Prop), Inv X pins σ H s → RelV x v → r x H R → wpAny (model X.prog X.w) X.A (pyIter v) (PIE X pins σ tg R) X.xe s
theorem ItR.or {X : Cx} {tg : Expr} {r r' : RIt} (h : ItR X tg r) (h' : ItR X tg r') : ItR X tg (fun x H R => r x H R ∨ r' x H R) := fun pins s σ H x v R I rx q => q.elim (h pins s σ H x v R I rx) (h' pins s σ H x v R I rx)
def rItL (K : PySem.W.Frag) : RIt := fun x H R => ∃ a, x = .ref a ∧ (∃ xs, SqL K H a xs) ∧ R (Itl K a) H
def rItT (K : PySem.W.Frag) : RIt := fun x H R => ∃ a, x = .ref a ∧ (∃ xs, SqT K H a xs) ∧ R (Itt K a) H
def rItS : RIt := fun x H R => ∃ z, x = .str z ∧ R (L2.Its z) H
theorem it_list {X : Cx} {tg : Expr} : ItR X tg (rItL X.K) := by
  intro pins s1 σ H1 x v R I1 r1 h
  obtain ⟨a, e, ⟨xs, hq⟩, q⟩ := h
  subst e
  cases r1
  obtain ⟨its, rv, p, hz⟩ := I1.list hq
  refine wpAny_pyIter_list p.isList ?_
  refine ⟨s1.heap.objs.size, [s1.heap.objs.size], _, _, H1, rfl, I1.kept (t' := s1.toks) fun b o e => Heap.get?_push_of_some _ e, turn_list a _, ⟨_, Heap.get?_push_size _ rfl, rfl, rfl⟩, fun b hb => ?_, q⟩
  have e : b = s1.heap.objs.size := by simpa using hb
  subst e
  exact I1.fpOk (Nat.le_refl _) (I1.hok.fresh (Nat.le_refl _))
theorem it_tup {X : Cx} {tg : Expr} : ItR X tg (rItT X.K) := by
  intro pins s1 σ H1 x v R I1 r1 h
  obtain ⟨a, e, ⟨xs, hq⟩, q⟩ := h
  subst e
  cases r1
  obtain ⟨its, rv, p, hz⟩ := I1.tuple hq
  refine wpAny_pyIter_tuple (show s1.heap.IsTuple a its.toArray from p) ?_
  refine ⟨s1.heap.objs.size, [s1.heap.objs.size], _, _, H1, rfl, I1.kept (t' := s1.toks) fun b o e => Heap.get?_push_of_some _ e, turn_tuple a _, ⟨_, Heap.get?_push_size _ rfl, rfl, rfl⟩, fun b hb => ?_, q⟩
  have e : b = s1.heap.objs.size := by simpa using hb
  subst e
  exact I1.fpOk (Nat.le_refl _) (I1.hok.fresh (Nat.le_refl _))
theorem it_str {X : Cx} {tg : Expr} : ItR X tg rItS := by
  intro pins s1 σ H1 y v R I1 r1 h
  obtain ⟨x, ex, q⟩ := h
  subst ex
  obtain ⟨t, rfl⟩ := r1
  cases ha : x.cps.all (· < 128)
  · exact wpAny_pyIter_wide ha (pi_one (tk := s1.toks) I1 _ (turn_str _ x t "str_iterator" (.inr rfl)) ⟨_, Heap.get?_push_size _ rfl, rfl, rfl⟩ q)
  · exact wpAny_pyIter_ascii ha (pi_one (tk := s1.toks) I1 _ (turn_str _ x t "str_ascii_iterator" (.inl rfl)) ⟨_, Heap.get?_push_size _ rfl, rfl, rfl⟩ q)
theorem pi_val {X : Cx} {tg e : Expr} {te : TE} {r : RIt} (hr : ItR X tg r) (he : PE X e te) : PI X tg e (fun σ H R => te σ H fun x H1 => r x H1 R) :=
  ⟨fun pins s σ H R I h => thn (he.run pins s σ H _ I h) fun v s1 ⟨x, H1, I1, r1, q1⟩ => hr pins s1 σ H1 x v R I1 r1 q1⟩
theorem _root_.L2.PI.imp {X : Cx} {tg e : Expr} {t t' : TI} (h : PI X tg e t) (i : ∀ σ H Q, t' σ H Q → t σ H Q) : PI X tg e t' := ⟨fun pins s σ H Q I q => h.run pins s σ H Q I (i σ H Q q)⟩
/-! ### what is walked -/
/-- a list that the loop walks must stand as it stood -/
def OkG (g : Option (Nat × List D)) (μ : Mem) : Prop := match g with
  | none => True
  | some (n, ds) => μ[n]? = some (.lst ds)
abbrev Itd := List D × Option (Nat × List D)
structure Yields (K : PySem.W.Frag) (J : It) (ds : List D) (g : Option (Nat × List D)) (H0 : Hp) (α0 : TR) (N0 : Nat) : Prop where
  go : ∀ H α μ, Ge H0 α0 N0 H α μ.length → Rel K μ α H → OkG g μ → ∀ i d, ds[i]? = some d → J.go i H ∧ ∀ x H', J.yld i H x H' → Go H α μ.length H' α μ.length ∧ Rel K μ α H' ∧ Rp K H' α μ.length d x
  stop : ∀ H α μ, Ge H0 α0 N0 H α μ.length → Rel K μ α H → OkG g μ → J.stop ds.length H
abbrev MI := En → Mem → Res Itd
def RI (K : PySem.W.Frag) : Hp → TR → Nat → Itd → It → Prop := fun H α N d J => Yields K J d.1 d.2 H α N
abbrev tMI (K : PySem.W.Frag) (W : WS) (m : MI) : TI := tX K W (RI K) m
section
variable {K : PySem.W.Frag} {H0 : Hp} {α0 : TR} {N0 : Nat}
def gOf (d : D) (ds : List D) : Option (Nat × List D) := match d with
  | .ref n => some (n, ds)
  | _ => none
theorem look_list {μ0 : Mem} {d : D} {ds : List D} {a : Addr} (R0 : Rel K μ0 α0 H0) (rd : Rp K H0 α0 μ0.length d (.ref a)) (hv : viewL μ0 d = some ds) {H : Hp} {α : TR} {μ : Mem} (g : Ge H0 α0 μ0.length H α μ.length) (R : Rel K μ α H) (ok : OkG (gOf d ds) μ) :
    ∃ xs, H a = some (.lst xs) ∧ Rps K H α μ.length ds xs ∧ ds.length ≤ sizeLine := by
  unfold viewL at hv
  split at hv
  · cases hv
    have r2 := Rp.ge g rd
    unfold Rp at r2
    obtain ⟨z, b, xs, e, f, r⟩ := r2
    cases e
    exact ⟨xs, f.1, r, z⟩
  · rename_i n
    have q : μ[n]? = some (.lst ds) := ok
    obtain ⟨z, b, xs, h1, h2, h3⟩ := R.cell n _ q
    have r2 := Rp.ge g rd
    unfold Rp at r2
    have e := r2.2 b h1
    cases e
    exact ⟨xs, h2, h3, z⟩
  · cases hv
theorem y_list {μ0 : Mem} {d : D} {ds : List D} {a : Addr} (R0 : Rel K μ0 α0 H0) (rd : Rp K H0 α0 μ0.length d (.ref a)) (hv : viewL μ0 d = some ds) : Yields K (Itl K a) ds (gOf d ds) H0 α0 μ0.length := by
  refine ⟨fun H α μ g R ok i d' hi => ?_, fun H α μ g R ok => ?_⟩
  · obtain ⟨xs, hx, r, z⟩ := look_list R0 rd hv g R ok
    obtain ⟨x, h1, h2⟩ := r.get hi
    refine ⟨⟨xs, x, .of hx, h1⟩, fun y H' hy => ?_⟩
    obtain ⟨rfl, hy⟩ := hy
    have e := hy xs (.of hx)
    rw [h1] at e
    cases e
    exact ⟨.refl, R, h2⟩
  · obtain ⟨xs, hx, r, z⟩ := look_list R0 rd hv g R ok
    exact ⟨xs, .of hx, by rw [r.length]; exact Nat.le_refl _⟩
theorem y_tup {ds : List D} {a : Addr} (rd : Rp K H0 α0 N0 (.tup ds) (.ref a)) : Yields K (Itt K a) ds none H0 α0 N0 := by
  have look : ∀ {H : Hp} {α : TR} {N : Nat}, Ge H0 α0 N0 H α N → ∃ xs, SqT K H a xs ∧ Rps K H α N ds xs := fun g => by
    have r2 := Rp.ge g rd
    obtain ⟨b, xs, e, h1, h2, _⟩ := viewT_at (ds := ds) r2 rfl
    cases e
    exact ⟨xs, h1, h2⟩
  refine ⟨fun H α μ g R ok i d' hi => ?_, fun H α μ g R ok => ?_⟩
  · obtain ⟨xs, hx, r⟩ := look g
    obtain ⟨x, h1, h2⟩ := r.get hi
    refine ⟨⟨xs, x, hx, h1⟩, fun y H' hy => ?_⟩
    obtain ⟨rfl, hy⟩ := hy
    have e := hy xs hx
    rw [h1] at e
    cases e
    exact ⟨.refl, R, h2⟩
  · obtain ⟨xs, hx, r⟩ := look g
    exact ⟨xs, hx, by rw [r.length]; exact Nat.le_refl _⟩
def strD (x : Str) : List D := x.cps.toList.map fun c => .str ⟨#[c]⟩
theorem y_str {x : Str} : Yields K (L2.Its x) (strD x) none H0 α0 N0 := by
  refine ⟨fun H α μ g R ok i d' hi => ?_, fun H α μ g R ok => ?_⟩
  · unfold strD at hi
    rw [List.getElem?_map] at hi
    obtain ⟨c, hc, rfl⟩ := Option.map_eq_some_iff.mp hi
    rw [Array.getElem?_toList] at hc
    refine ⟨(Array.getElem?_eq_some_iff.mp hc).1, fun y H' hy => ?_⟩
    obtain ⟨rfl, c', h1, rfl⟩ := hy
    rw [hc] at h1
    cases h1
    exact ⟨.refl, R, rp_str (line_of (by show 1 ≤ _; decide))⟩
  · show x.cps.size ≤ (strD x).length
    unfold strD
    rw [List.length_map, Array.length_toList]
    exact Nat.le_refl _
def rangeD (lo : Int) (n : Nat) : List D := (List.range n).map fun (i : Nat) => .int (lo + (i : Int))
theorem y_range {lo : Int} {n : Nat} : Yields K (Itr lo n) (rangeD lo n) none H0 α0 N0 := by
  refine ⟨fun H α μ g R ok i d' hi => ?_, fun H α μ g R ok => ?_⟩
  · unfold rangeD at hi
    rw [List.getElem?_map] at hi
    obtain ⟨c, hc, rfl⟩ := Option.map_eq_some_iff.mp hi
    obtain ⟨h1, h2⟩ := List.getElem?_eq_some_iff.mp hc
    rw [List.getElem_range] at h2
    rw [List.length_range] at h1
    subst h2
    refine ⟨h1, fun y H' hy => ?_⟩
    obtain ⟨rfl, rfl⟩ := hy
    exact ⟨.refl, R, rp_int⟩
  · show n ≤ (rangeD lo n).length
    unfold rangeD
    rw [List.length_map, List.length_range]
    exact Nat.le_refl _
def rangeC (lo c : Int) (n : Nat) : List D := (List.range n).map fun (i : Nat) => .int (lo + (i : Nat) * c)
theorem y_rangeC {lo c : Int} {n : Nat} : Yields K (Itc lo c n) (rangeC lo c n) none H0 α0 N0 := by
  refine ⟨fun H α μ g R ok i d' hi => ?_, fun H α μ g R ok => ?_⟩
  · unfold rangeC at hi
    rw [List.getElem?_map] at hi
    obtain ⟨c', hc, rfl⟩ := Option.map_eq_some_iff.mp hi
    obtain ⟨h1, h2⟩ := List.getElem?_eq_some_iff.mp hc
    rw [List.getElem_range] at h2
    rw [List.length_range] at h1
    subst h2
    refine ⟨h1, fun y H' hy => ?_⟩
    obtain ⟨rfl, rfl⟩ := hy
    exact ⟨.refl, R, rp_int⟩
  · show n ≤ (rangeC lo c n).length
    unfold rangeC
    rw [List.length_map, List.length_range]
    exact Nat.le_refl _
def enumD (ds : List D) : List D := ds.zipIdx.map fun p => .tup [.int (p.2 : Nat), p.1]
theorem enumD_get {ds : List D} {i : Nat} {d' : D} (hi : (enumD ds)[i]? = some d') : ∃ d, ds[i]? = some d ∧ d' = .tup [.int (i : Nat), d] := by
  unfold enumD at hi
  rw [List.getElem?_map, List.getElem?_zipIdx] at hi
  obtain ⟨p, hp, rfl⟩ := Option.map_eq_some_iff.mp hi
  obtain ⟨d, hd, rfl⟩ := Option.map_eq_some_iff.mp hp
  exact ⟨d, hd, by simp⟩
theorem enumD_len {ds : List D} : (enumD ds).length = ds.length := by unfold enumD; simp
theorem y_enum {μ0 : Mem} {d : D} {ds : List D} {a : Addr} (R0 : Rel K μ0 α0 H0) (rd : Rp K H0 α0 μ0.length d (.ref a)) (hv : viewL μ0 d = some ds) : Yields K (Ite K a) (enumD ds) (gOf d ds) H0 α0 μ0.length := by
  refine ⟨fun H α μ g R ok i d' hi => ?_, fun H α μ g R ok => ?_⟩
  · obtain ⟨xs, hx, r, z⟩ := look_list R0 rd hv g R ok
    obtain ⟨d1, hd1, rfl⟩ := enumD_get hi
    obtain ⟨x, h1, h2⟩ := r.get hd1
    refine ⟨⟨xs, x, .of hx, h1⟩, fun y H' hy => ?_⟩
    obtain ⟨T, x', rfl, hT, rfl, hy⟩ := hy
    have e := hy xs (.of hx)
    rw [h1] at e
    cases e
    have gg : Go H α μ.length (upd H T (.tup [.int (i : Nat), x])) α μ.length := Go.new_obj hT (R.nohid hT)
    refine ⟨gg, R.new_obj hT, ?_⟩
    unfold Rp
    exact ⟨by show 2 ≤ _; exact line_of (by decide), T, _, rfl, .inl ⟨.inl upd_same, R.fresh hT⟩, Rps.cons rp_int (Rps.cons (Rp.go gg h2) Rps.nil)⟩
  · obtain ⟨xs, hx, r, z⟩ := look_list R0 rd hv g R ok
    exact ⟨xs, .of hx, by rw [r.length, enumD_len]; exact Nat.le_refl _⟩
end
section
variable {X : Cx} {W : WS} {tg e : Expr} {ma : ME} {p pos : Pos}
/-- a list, a tuple, a text -/
def mIt (a : ME) : MI := fun e μ => (a e μ).bind fun d μ1 => match d with
  | .tup ds => .ok (ds, none) μ1
  | .str x => .ok (strD x, none) μ1
  | d => match viewL μ1 d with
    | some ds => .ok (ds, gOf d ds) μ1
    | none => .stuck
theorem i_any (he : PE X e (tM X.K W ma)) : PI X tg e (tMI X.K W (mIt ma)) := (pi_val (it_list.or (it_tup.or it_str)) he).imp fun σ H Q h => by
  obtain ⟨e, μ, α, h⟩ := At.of h
  refine h.bind fun d μ1 v H1 α1 g1 r1 h1 => ?_
  split at h1
  · rename_i ds
    obtain ⟨a, xs, rfl, hs, _⟩ := viewT_at (ds := ds) r1 rfl
    exact .inr (.inl ⟨a, rfl, ⟨xs, hs⟩, h1.fin (y_tup r1)⟩)
  · rename_i x
    exact .inr (.inr ⟨x, rp_str_iff r1, h1.fin y_str⟩)
  · split at h1
    · rename_i ds hv
      obtain ⟨a, xs, rfl, hs, _⟩ := viewL_at h1.rel r1 hv
      exact .inl ⟨a, rfl, ⟨xs, .of hs⟩, h1.fin (y_list h1.rel r1 hv)⟩
    · exact h1.post.elim
def rgOk (j : Int) : Prop := -(2 ^ 62) ≤ j ∧ j < 2 ^ 62
instance {j : Int} : Decidable (rgOk j) := by unfold rgOk; exact inferInstance
def mRg1 (a : ME) : MI := fun e μ => (a e μ).bind fun d μ1 => match d with
  | .int j => if rgOk j then .ok (rangeD 0 j.toNat, none) μ1 else .stuck
  | _ => .stuck
theorem i_range1 (hg : Gl X "range") (hm : X.mg "range" = none) (ha : PE X e (tM X.K W ma)) (hs : starEach [e] X.env = [(false, eval e X.env)] := by rfl) : PI X tg (.Call (.Name "range" p) [e] [] pos) (tMI X.K W (mRg1 ma)) :=
  (pi_range1 hg hm (pa_cons ha pa_nil hs) hs).imp fun σ H Q h => by
    obtain ⟨e, μ, α, h⟩ := At.of h
    refine h.bind (R := RV X.K) fun d μ1 v H1 α1 g1 r1 h1 => ?_
    split at h1
    · rename_i j
      split at h1
      · rename_i c
        exact ⟨j, by rw [rp_int_iff r1], c.1, c.2, h1.fin y_range⟩
      · exact h1.post.elim
    · exact h1.post.elim
def mRg2 (a b : ME) : MI := fun e μ => (a e μ).bind fun d μ1 => (b e μ1).bind fun d2 μ2 => match d, d2 with
  | .int i, .int j => if rgOk i ∧ rgOk j then .ok (rangeD i (j - i).toNat, none) μ2 else .stuck
  | _, _ => .stuck
theorem i_range2 {b : Expr} {mb : ME} (hg : Gl X "range") (hm : X.mg "range" = none) (ha : PE X e (tM X.K W ma)) (hb : PE X b (tM X.K W mb)) (hs : starEach [e, b] X.env = [(false, eval e X.env), (false, eval b X.env)] := by rfl) (hs2 : starEach [b] X.env = [(false, eval b X.env)] := by rfl)
    (hs3 : starEach (e :: [b]) X.env = (false, eval e X.env) :: starEach [b] X.env := by rfl) : PI X tg (.Call (.Name "range" p) [e, b] [] pos) (tMI X.K W (mRg2 ma mb)) :=
  (pi_range2 hg hm (pa_cons ha (pa_cons hb pa_nil hs2) hs3) hs hs2).imp fun σ H Q h => by
    obtain ⟨e, μ, α, h⟩ := At.of h
    refine h.bind (R := RV X.K) fun d μ1 v H1 α1 g1 r1 h1 => ?_
    refine h1.bind (R := RV X.K) fun d2 μ2 v2 H2 α2 g2 r2 h2 => ?_
    split at h2
    · rename_i i j
      split at h2
      · rename_i c
        exact ⟨i, j, by rw [rp_int_iff r1, rp_int_iff r2], ⟨c.1.1, c.1.2, c.2.1, c.2.2⟩, h2.fin y_range⟩
      · exact h2.post.elim
    · exact h2.post.elim
def mEnum (a : ME) : MI := fun e μ => (a e μ).bind fun d μ1 => match viewL μ1 d with
  | some ds => .ok (enumD ds, gOf d ds) μ1
  | none => .stuck
theorem i_enum {elts : List Expr} {kk : Nat} {tpos : Pos} (hg : Gl X "enumerate") (hm : X.mg "enumerate" = none) (ha : PE X e (tM X.K W ma)) (hs : starEach [e] X.env = [(false, eval e X.env)] := by rfl) : PI X (.Tuple elts kk tpos) (.Call (.Name "enumerate" p) [e] [] pos) (tMI X.K W (mEnum ma)) :=
  (pi_enum hg hm (pa_cons ha pa_nil hs) hs).imp fun σ H Q h => by
    obtain ⟨e, μ, α, h⟩ := At.of h
    refine h.bind (R := RV X.K) fun d μ1 v H1 α1 g1 r1 h1 => ?_
    split at h1
    · rename_i ds hv
      obtain ⟨a, xs, rfl, hs, _⟩ := viewL_at h1.rel r1 hv
      exact ⟨a, xs, rfl, .of hs, h1.fin (y_enum h1.rel r1 hv)⟩
    · exact h1.post.elim
/-! ### for -/
open Classical in
def loopI (gd : Option (Nat × List D)) (g : MG) (body : MS) : List D → MS
  | [], e, μ => if OkG gd μ then .ok (.nx e) μ else .stuck
  | d :: ds, e, μ => if OkG gd μ then (g d e μ).bind fun e1 μ1 => match body e1 μ1 with
      | .ok (.nx e2) μ2 => loopI gd g body ds e2 μ2
      | .ok (.ct e2) μ2 => loopI gd g body ds e2 μ2
      | .ok (.bk e2) μ2 => .ok (.nx e2) μ2
      | r => r
    else .stuck
def mFor (mi : MI) (g : MG) (body : MS) : MS := fun e μ => (mi e μ).bind fun it μ1 => loopI it.2 g body it.1 e μ1
theorem d_for {iter : Expr} {body : List Stmt} {mi : MI} {g : MG} {mb : MS} (hp : PassesOwn (model X.prog X.w) X.A X.env X.xe) (hc : X.calm = true) (hi : PI X tg iter (tMI X.K W mi)) (hg : PG X tg (tMG X.K W g)) (hb : PSs X body (tMS X.K W mb))
    (hs : ∀ x, foldedSetIterable iter X.env x = pure x := by intro _; rfl) : PS X (.For tg iter body [] pos) (tMS X.K W (mFor mi g mb)) := (ps_for hp hc hi hg hb hs).imp fun D σ H h => by
  obtain ⟨e, μ, α, h⟩ := AtS.of h
  refine h.bind fun it μ1 J H1 α1 g1 y h1 => ?_
  obtain ⟨ds, gd⟩ := it
  have y : Yields X.K J ds gd H1 α1 μ1.length := y
  have h1 : AtS X.K W D e σ μ1 α1 H1 (loopI gd g mb ds e μ1) := h1
  let St' (i : Nat) (σ : L2.St) (H : Hp) : Prop := ∃ e μ α, Ge H1 α1 μ1.length H α μ.length ∧ EnR X.K H α μ.length e σ ∧ Rel X.K μ α H ∧ W.S σ H α μ.length ∧ PostS X.K W D H α μ.length (loopI gd g mb (ds.drop i) e μ)
  refine ⟨fun i m σ H => m = ds.length - i ∧ i ≤ ds.length ∧ St' i σ H, ⟨ds.length, by simp, Nat.zero_le _, e, μ1, α1, (Go.refl).ge, h1.en, h1.rel, h1.sd, h1.post⟩, ?_⟩
  rintro i m σ H ⟨rfl, hle, e, μ, α, ge, en, R, sd, p⟩
  by_cases hlt : i < ds.length
  · obtain ⟨d, hd⟩ : ∃ d, ds[i]? = some d := ⟨ds[i], List.getElem?_eq_getElem hlt⟩
    have hdr : ds.drop i = d :: ds.drop (i + 1) := by
      have e0 : ds[i] = d := by rw [List.getElem?_eq_getElem hlt] at hd; exact Option.some.inj hd
      rw [← e0]; exact List.drop_eq_getElem_cons hlt
    rw [hdr] at p
    unfold loopI at p
    by_cases ok : OkG gd μ
    · rw [if_pos ok] at p
      obtain ⟨jg, jy⟩ := y.go H α μ ge R ok i d hd
      refine .inr ⟨jg, fun σ' H' => St' (i + 1) σ' H', fun σ' H' hs' => ⟨ds.length - (i + 1), by omega, rfl, hlt, hs'⟩, fun x H' hy => ?_⟩
      obtain ⟨gy, Ry, ry⟩ := jy x H' hy
      refine ⟨d, e, μ, α, ry, en.go gy, Ry, W.ge gy.ge sd, ?_⟩
      have p := PostS.go gy p
      have ge' := ge.trans gy.ge
      cases q : g d e μ with
      | exc C x e' μ1 => rw [q] at p; exact p
      | stuck => rw [q] at p; exact p
      | ok e1 μ2 =>
        rw [q] at p
        intro σ2 H2 α2 g2 R2 en2
        refine ⟨e1, μ2, α2, en2.1, R2, en2.2, ?_⟩
        have p : PostS X.K W D H' α μ.length (match mb e1 μ2 with
          | .ok (.nx e2) μ2 => loopI gd g mb (ds.drop (i + 1)) e2 μ2
          | .ok (.ct e2) μ2 => loopI gd g mb (ds.drop (i + 1)) e2 μ2
          | .ok (.bk e2) μ2 => .ok (.nx e2) μ2
          | r => r) := p
        have p := PostS.go g2 p
        have ge2 := ge'.trans g2.ge
        cases q2 : mb e1 μ2 with
        | exc C x e' μ1 => rw [q2] at p; exact p
        | stuck => rw [q2] at p; exact p
        | ok f μ3 =>
          rw [q2] at p
          cases f with
          | rt d => exact p
          | bk e2 => exact p
          | nx e2 => exact fun σ3 H3 α3 g3 R3 en3 sd3 => ⟨e2, μ3, α3, ge2.trans g3.ge, en3, R3, sd3, PostS.go g3 p⟩
          | ct e2 => exact fun σ3 H3 α3 g3 R3 en3 sd3 => ⟨e2, μ3, α3, ge2.trans g3.ge, en3, R3, sd3, PostS.go g3 p⟩
    · rw [if_neg ok] at p; exact p.elim
  · have hi : i = ds.length := Nat.le_antisymm hle (Nat.le_of_not_lt hlt)
    subst hi
    rw [List.drop_length] at p
    unfold loopI at p
    by_cases ok : OkG gd μ
    · rw [if_pos ok] at p
      exact .inl ⟨y.stop H α μ ge R ok, p σ H α .refl R en sd⟩
    · rw [if_neg ok] at p; exact p.elim
/-! ### while -/
def loopW (t : MT) (body : MS) : Nat → MS
  | 0, _, _ => .stuck
  | n + 1, e, μ => (t e μ).bind fun k μ1 => if k = true then (match body e μ1 with
      | .ok (.nx e2) μ2 => loopW t body n e2 μ2
      | .ok (.ct e2) μ2 => loopW t body n e2 μ2
      | .ok (.bk e2) μ2 => .ok (.nx e2) μ2
      | r => r) else .ok (.nx e) μ1
theorem d_while {c : Expr} {body : List Stmt} {t : MT} {mb : MS} (n : Nat) (hp : PassesOwn (model X.prog X.w) X.A X.env X.xe) (hc : PT X c (tMT X.K W t)) (hb : PSs X body (tMS X.K W mb)) : PS X (.While c body [] pos) (tMS X.K W (loopW t mb n)) := (ps_while hp hc hb).imp fun D σ H h => by
  obtain ⟨e, μ, α, h⟩ := AtS.of h
  refine ⟨fun m σ H => ∃ e μ α, AtS X.K W D e σ μ α H (loopW t mb m e μ), ⟨n, e, μ, α, h⟩, ?_⟩
  rintro m σ H ⟨e, μ, α, h⟩
  cases m with
  | zero => exact h.post.elim
  | succ m =>
    refine AtS.bind (R := RB) (m := t) h fun k μ1 k' H1 α1 g1 r h1 => ?_
    cases r
    cases k with
    | false => exact h1.nx h1.en h1.sd
    | true =>
      refine ⟨fun σ' H' => ∃ e μ α, AtS X.K W D e σ' μ α H' (loopW t mb m e μ), fun σ' H' q => ⟨m, Nat.lt_succ_self _, q⟩, e, μ1, α1, h1.en, h1.rel, h1.sd, ?_⟩
      have p := h1.post
      simp only [if_true] at p
      cases q2 : mb e μ1 with
      | exc C x e' μ1 => rw [q2] at p; exact p
      | stuck => rw [q2] at p; exact p
      | ok f μ3 =>
        rw [q2] at p
        cases f with
        | rt d => exact p
        | bk e2 => exact p
        | nx e2 => exact fun σ3 H3 α3 g3 R3 en3 sd3 => ⟨e2, μ3, α3, en3, R3, sd3, PostS.go g3 p⟩
        | ct e2 => exact fun σ3 H3 α3 g3 R3 en3 sd3 => ⟨e2, μ3, α3, en3, R3, sd3, PostS.go g3 p⟩
end
end MP
end
set_option Elab.async false
set_option linter.all false
set_option maxRecDepth 100000
set_option maxHeartbeats 1000000
noncomputable section
namespace MP
open PySem PySem.Spec PyProof.Rows L2
/-! ### list comprehensions -/
def Res.bind0 {α β : Type} (r : Res α) (k : α → Mem → Res β) : Res β := match r with
  | .ok a μ => k a μ
  | _ => .stuck
@[simp] theorem Res.bind0_ok {α β : Type} (a : α) (μ : Mem) (k : α → Mem → Res β) : (Res.ok a μ).bind0 k = k a μ := rfl
def wipeE (e : En) : List Nat → En
  | [] => e
  | v :: vs => (wipeE e vs).set v none
theorem wipe_len (σ : L2.St) (e : En) (h : e.length = σ.length) : ∀ vs : List Nat, (wipeE e vs).length = (wipe σ vs).length
  | [] => h
  | v :: vs => by unfold wipeE wipe; rw [List.length_set, List.length_set]; exact wipe_len σ e h vs
theorem EnR.unset {K : PySem.W.Frag} {H : Hp} {α : TR} {N : Nat} {e : En} {σ : L2.St} (h : EnR K H α N e σ) (i : Nat) : EnR K H α N (e.set i none) (σ.set i none) := by
  refine ⟨by simp [h.1], fun j c q => ?_⟩
  by_cases hj : i = j
  · subst hj
    by_cases hl : i < e.length
    · rw [List.getElem?_set_self hl] at q
      cases q
    · rw [List.getElem?_eq_none (by simpa using Nat.le_of_not_lt hl)] at q; cases q
  · rw [List.getElem?_set_ne hj] at q ⊢
    exact h.2 j c q
theorem EnR.wipe {K : PySem.W.Frag} {H : Hp} {α : TR} {N : Nat} {e : En} {σ : L2.St} (h : EnR K H α N e σ) : ∀ vs : List Nat, EnR K H α N (wipeE e vs) (L2.wipe σ vs)
  | [] => h
  | v :: vs => by unfold wipeE L2.wipe; exact (EnR.wipe h vs).unset v
abbrev W0 : WS := ⟨fun _ _ _ _ => False, fun _ _ _ _ => True, [], fun _ _ => trivial, fun _ _ => trivial⟩
/-- a target of a comprehension: its own slots alone -/
def tCG (K : PySem.W.Frag) (vs : List Nat) (g : MG) : TG := fun v σ H Q => ∃ d e μ α, Rp K H α μ.length d v ∧ EnR K H α μ.length e σ ∧ Rel K μ α H ∧ ∃ e' μ', g d e μ = .ok e' μ' ∧ μ' = μ ∧ ∀ σ', EnR K H α μ.length e' σ' → L2.wipe σ' vs = L2.wipe σ vs → Q σ' H
def tCGs (K : PySem.W.Frag) (vs : List Nat) (g : List D → En → Mem → Res En) : TGs := fun us σ H Q => ∃ ds e μ α, Rps K H α μ.length ds us ∧ EnR K H α μ.length e σ ∧ Rel K μ α H ∧ ∃ e' μ', g ds e μ = .ok e' μ' ∧ μ' = μ ∧ ∀ σ', EnR K H α μ.length e' σ' → L2.wipe σ' vs = L2.wipe σ vs → Q σ' H
theorem wipe_set {σ : L2.St} {i : Nat} {o : Option V} : ∀ {vs : List Nat}, i ∈ vs → L2.wipe (σ.set i o) vs = L2.wipe σ vs
  | [], h => by cases h
  | v :: vs, h => by
    unfold L2.wipe
    by_cases hv : i = v
    · subst hv
      by_cases hm : i ∈ vs
      · rw [wipe_set hm]
      · have : ∀ (us : List Nat), i ∉ us → L2.wipe (σ.set i o) us = (L2.wipe σ us).set i o := by
          intro us
          induction us with
          | nil => intro _; rfl
          | cons u us ih =>
            intro hn
            have h1 : i ≠ u := fun e => hn (by rw [e]; exact List.mem_cons_self)
            have h2 : i ∉ us := fun e => hn (List.mem_cons_of_mem _ e)
            unfold L2.wipe
            rw [ih h2, List.set_comm _ _ h1]
        rw [this vs hm, List.set_set]
    · have hm : i ∈ vs := (List.mem_cons.mp h).resolve_left hv
      rw [wipe_set hm]
theorem wipe_none {σ : L2.St} : ∀ {vs : List Nat} {v : Nat}, v ∈ vs → (L2.wipe σ vs).set v none = L2.wipe σ vs
  | [], _, h => by cases h
  | u :: us, v, h => by
    unfold L2.wipe
    by_cases e : u = v
    · subst e; rw [List.set_set]
    · rw [List.set_comm _ _ e, wipe_none ((List.mem_cons.mp h).resolve_left fun z => e z.symm)]
theorem wipe_wipe {σ : L2.St} (vs : List Nat) : L2.wipe (L2.wipe σ vs) vs = L2.wipe σ vs := by
  have : ∀ us : List Nat, (∀ u ∈ us, u ∈ vs) → L2.wipe (L2.wipe σ vs) us = L2.wipe σ vs := by
    intro us
    induction us with
    | nil => intro _; rfl
    | cons u us ih =>
      intro h
      show (L2.wipe (L2.wipe σ vs) us).set u none = _
      rw [ih fun w hw => h w (List.mem_cons_of_mem _ hw)]
      exact wipe_none (h u List.mem_cons_self)
  exact this vs fun _ h => h
section
variable {X : Cx} {W : WS} {pos : Pos} {e : Expr}
theorem c_name {i : Nat} {x : Str} {vs : List Nat} (hN : X.N.Nodup) (hi : X.N[i]? = some x) (hx : Loc X.env.scope x) (hf : X.fn x = true ∨ X.env.scope.names.lookup x = some .local) (hm : i ∈ vs) : PG X (.Name x pos) (tCG X.K vs (oName i)) :=
  ⟨fun pins s σ H v u Q I r h => (pg_name hN hi hx hf).run pins s σ H v u Q I r (by
    obtain ⟨d, e, μ, α, rd, en, rel, e', μ', h1, rfl, q⟩ := h
    unfold oName at h1
    cases h1
    exact q _ (en.set rd i) (wipe_set hm))⟩
theorem cs_nil {vs : List Nat} : PGs X [] (tCGs X.K vs oNil) := ⟨fun pins s σ H us ws Q I r h => pgs_nil.run pins s σ H us ws Q I r (by
  obtain ⟨ds, e, μ, α, rd, en, rel, e', μ', h1, rfl, q⟩ := h
  unfold oNil at h1
  cases ds with
  | nil => cases h1; exact ⟨Rps.nil_inv rd, q _ en rfl⟩
  | cons d ds => cases h1)⟩
/-- what a target does to the slots hangs not on the store -/
def Still (g : MG) : Prop := ∀ d e μ e' μ', g d e μ = .ok e' μ' → μ' = μ
theorem still_name {i : Nat} : Still (oName i) := fun d e μ e' μ' h => by unfold oName at h; cases h; rfl
theorem cs_cons {es : List Expr} {vs : List Nat} {g : MG} {gs : List D → En → Mem → Res En} (sg : Still g) (h1 : PG X e (tCG X.K vs g)) (h2 : PGs X es (tCGs X.K vs gs)) (hs : (assignEach (e :: es) X.env).map (·.2) = assign e X.env :: (assignEach es X.env).map (·.2) := by rfl) : PGs X (e :: es) (tCGs X.K vs (oCons g gs)) :=
  ⟨fun pins s σ H us ws Q I r h => (pgs_cons h1 h2 hs).run pins s σ H us ws Q I r (by
    obtain ⟨ds, e, μ, α, rd, en, rel, e', μ', hg, rfl, q⟩ := h
    unfold oCons at hg
    cases ds with
    | nil => cases hg
    | cons d ds =>
      obtain ⟨v, ws', rfl, r1, r2⟩ := Rps.cons_inv rd
      dsimp only at hg
      cases q1 : g d e μ' with
      | ok e1 μ1 =>
        rw [q1] at hg
        have em := sg _ _ _ _ _ q1
        subst em
        refine ⟨v, ws', rfl, d, e, μ1, α, r1, en, rel, e1, μ1, q1, rfl, fun σ1 en1 w1 => ⟨ds, e1, μ1, α, r2, en1, rel, e', μ1, hg, rfl, fun σ2 en2 w2 => q σ2 en2 (w2.trans w1)⟩⟩
      | exc C x e2 μ1 => rw [q1] at hg; cases hg
      | stuck => rw [q1] at hg; cases hg)⟩
theorem c_tup {es : List Expr} {k n : Nat} {vs : List Nat} {gs : List D → En → Mem → Res En} (hc : X.calm = true) (h : PGs X es (tCGs X.K vs gs)) (hn : (assignEach es X.env).length = n := by rfl) (hst : (assignEach es X.env).findIdx? (·.1) = none := by rfl) : PG X (.Tuple es k pos) (tCG X.K vs (oTup n gs)) :=
  ⟨fun pins s σ H v u Q I r hm => (pg_tup hc h hn hst).run pins s σ H v u Q I r (by
    obtain ⟨d, e, μ, α, rd, en, rel, e', μ', hg, rfl, q⟩ := hm
    unfold oTup at hg
    split at hg
    · rename_i ds
      split at hg
      · rename_i c
        obtain ⟨a, xs, rfl, ha, r2, _⟩ := viewT_at (ds := ds) rd rfl
        exact ⟨a, xs, rfl, ha, by rw [r2.length]; exact c, ds, e, μ', α, r2, en, rel, e', μ', hg, rfl, q⟩
      · cases hg
    · cases hg)⟩
end
def mYes : MT := fun _ μ => .ok true μ
section
variable {X : Cx}
theorem ts_nil : PTs X [] (tMT X.K W0 mYes) := ⟨fun pins s σ H Q I h => pts_nil.run pins s σ H Q I (by
  obtain ⟨e, μ, α, h⟩ := At.of h
  exact h.fin rfl)⟩
theorem ts_one {c : Expr} {t : MT} (h : PT X c (tMT X.K W0 t)) : PTs X [c] (tMT X.K W0 t) := pts_one h
end
open Classical in
def loopC (gd : Option (Nat × List D)) (g : MG) (t : MT) (m : ME) (e0 : En) : List D → List D → Mem → Res (List D)
  | [], acc, μ => if OkG gd μ then .ok acc μ else .stuck
  | d :: ds, acc, μ => if OkG gd μ then (match g d e0 μ with
      | .ok e1 μ1 => if μ1 = μ then (t e1 μ).bind0 fun k μ2 => if k = true then ((m e1 μ2).bind0 fun y μ3 => if acc.length < 16777216 then loopC gd g t m e0 ds (acc ++ [y]) μ3 else .stuck) else loopC gd g t m e0 ds acc μ2 else .stuck
      | _ => .stuck) else .stuck
def mLc (mi : MI) (g : MG) (t : MT) (m : ME) (vs : List Nat) : ME := fun e μ => (mi e μ).bind fun it μ1 => (loopC it.2 g t m (wipeE e vs) it.1 [] μ1).bind fun ys μ2 => .ok (.lst ys) μ2
/-- while a list is under construction at D -/
structure Cmp (H1 : Hp) (α1 : TR) (N1 : Nat) (D : Addr) (H : Hp) (α : TR) (N : Nat) : Prop where
  hid : α.hid = D :: α1.hid
  len : N1 ≤ N
  keep : ∀ a o, H1 a = some o → ¬ Lv α1 a → H a = some o
  there : ∀ a, H1 a ≠ none → H a ≠ none
  new : ∀ n a, α.m n = some a → Lv α1 a ∨ H1 a = none
  newm : ∀ n a, α.m n = some a → α1.m n = some a ∨ N1 ≤ n
  hk : ∀ a, a ∈ α1.hid → H a = H1 a
section
variable {H1 H H' : Hp} {α1 α α' : TR} {N1 N N' : Nat} {D : Addr} {K : PySem.W.Frag} {μ : Mem} {xs : List V}
theorem Cmp.nlv (c : Cmp H1 α1 N1 D H α N) (hD : H1 D = none) {a : Addr} {o : HO} (h : H1 a = some o) (n : ¬ Lv α1 a) : ¬ Lv α a := fun e => by
  rcases e with ⟨m, e⟩ | e
  · rcases c.new m a e with z | z
    · exact n z
    · rw [h] at z; cases z
  · rw [c.hid] at e
    rcases List.mem_cons.mp e with z | z
    · rw [z, hD] at h; cases h
    · exact n (.inr z)
theorem Cmp.go (c : Cmp H1 α1 N1 D H α N) (hD : H1 D = none) (g : Go H α N H' α' N') : Cmp H1 α1 N1 D H' α' N' := by
  refine ⟨g.hid.trans c.hid, Nat.le_trans c.len g.len, fun a o h n => g.keep a o (c.keep a o h n) (c.nlv hD h n), fun a h => g.there a (c.there a h), fun n a e => ?_, fun n a e => ?_, fun a ha => (g.hk a (by rw [c.hid]; exact List.mem_cons_of_mem _ ha)).trans (c.hk a ha)⟩
  · rcases g.new a (.inl ⟨n, e⟩) with (⟨m, z⟩ | z) | z
    · exact c.new m a z
    · rw [c.hid] at z
      rcases List.mem_cons.mp z with y | y
      · exact .inr (by rw [y]; exact hD)
      · exact .inl (.inr y)
    · refine .inr ?_
      cases q : H1 a with
      | none => rfl
      | some o => exact absurd z (c.there a (by rw [q]; exact fun z => nomatch z))
  · rcases g.newm n a e with z | z
    · exact c.newm n a z
    · exact .inr (Nat.le_trans c.len z)
theorem Cmp.upd (c : Cmp H1 α1 N1 D H α N) (hD : H1 D = none) (hh : D ∉ α1.hid) {o : HO} : Cmp H1 α1 N1 D (L2.upd H D o) α N := by
  refine ⟨c.hid, c.len, fun a u h n => ?_, fun a h => ?_, c.new, c.newm, fun a ha => ?_⟩
  · rw [upd_ne (ne_of_none h hD)]; exact c.keep a u h n
  · by_cases e : a = D
    · subst e; rw [upd_same]; exact fun z => nomatch z
    · rw [upd_ne e]; exact c.there a h
  · rw [upd_ne (fun z => hh (by rw [← z]; exact ha))]; exact c.hk a ha
theorem ge_upd (hm : D ∈ α.hid) {o : HO} : Ge H α N (L2.upd H D o) α N :=
  ⟨Nat.le_refl _, fun a u h n => ⟨by rw [upd_ne (fun z => n (.inr (by rw [z]; exact hm)))]; exact h, n⟩, fun _ _ h => .inl h⟩
theorem CellOk.ge {n : Nat} {α' : TR} (g : Ge H α N H' α' N') (ha : α'.m n = α.m n) (hk : ∀ a, α.m n = some a → H' a = H a) (hd : ∀ a dx, α.m n = some a → H dx = some (.own a) → H' dx = some (.own a)) : ∀ {c : Cell}, CellOk K H α N n c → CellOk K H' α' N' n c
  | .dead, h => ha.trans h
  | .lst ds, ⟨z, a, xs, h1, h2, h3⟩ => ⟨z, a, xs, ha.trans h1, (hk a h1).trans h2, h3.ge g⟩
  | .dct kvs, ⟨a, xs, h1, h2, h3, h4⟩ => ⟨a, xs, ha.trans h1, (hk a h1).trans h2, h3, h4.ge g⟩
  | .ins C fs, ⟨a, dx, xs, h1, h2, h3, h4, h5⟩ => ⟨a, dx, xs, ha.trans h1, (hk a h1).trans h2, hd a dx h1 h3, h4, h5.ge g⟩
theorem Rel.upd (R : Rel K μ α H) (hm : D ∈ α.hid) {ys : List V} : Rel K μ α (L2.upd H D (.lst ys)) := by
  have nD : ∀ n a, α.m n = some a → a ≠ D := fun n a e z => R.dis n a e (by rw [z]; exact hm)
  obtain ⟨xs, hx⟩ := R.hl D hm
  refine ⟨R.inj, R.dom, fun n c h => (R.cell n c h).ge (ge_upd hm) rfl (fun a e => upd_ne (nD n a e)) (fun a dx e h => ?_), R.dis, fun a ha => ?_⟩
  · rw [upd_ne (fun z => by rw [z, hx] at h; cases h)]; exact h
  · by_cases e : a = D
    · subst e; exact ⟨ys, upd_same⟩
    · obtain ⟨zs, hz⟩ := R.hl a ha
      exact ⟨zs, by rw [upd_ne e]; exact hz⟩
theorem Rel.begin (R : Rel K μ α H) (hD : H D = none) : Rel K μ ⟨α.m, D :: α.hid⟩ (L2.upd H D (.lst [])) ∧ Ge H α μ.length (L2.upd H D (.lst [])) ⟨α.m, D :: α.hid⟩ μ.length ∧ Cmp H α μ.length D (L2.upd H D (.lst [])) ⟨α.m, D :: α.hid⟩ μ.length := by
  have g : Ge H α μ.length (L2.upd H D (.lst [])) ⟨α.m, D :: α.hid⟩ μ.length := by
    refine ⟨Nat.le_refl _, fun a o h n => ⟨by rw [upd_ne (ne_of_none h hD)]; exact h, fun e => ?_⟩, fun _ _ h => .inl h⟩
    rcases e with e | e
    · exact n (.inl e)
    · rcases List.mem_cons.mp e with z | z
      · rw [z, hD] at h; cases h
      · exact n (.inr z)
  refine ⟨⟨R.inj, R.dom, fun n c h => (R.cell n c h).ge g rfl (fun a e => upd_ne fun z => R.live e (by rw [z]; exact hD)) (fun a dx e h => by rw [upd_ne (ne_of_none h hD)]; exact h), fun n a e h => ?_, fun a ha => ?_⟩, g,
    ⟨rfl, Nat.le_refl _, fun a o h _ => by rw [upd_ne (ne_of_none h hD)]; exact h, fun a h => ?_, fun n a e => .inl (.inl ⟨n, e⟩), fun n a e => .inl e, fun a ha => upd_ne fun z => R.nohid hD (by rw [← z]; exact ha)⟩⟩
  · rcases List.mem_cons.mp h with z | z
    · exact R.live e (by rw [z]; exact hD)
    · exact R.dis n a e z
  · rcases List.mem_cons.mp ha with z | z
    · subst z; exact ⟨[], upd_same⟩
    · obtain ⟨xs, hx⟩ := R.hl a z
      exact ⟨xs, by rw [upd_ne (ne_of_none hx hD)]; exact hx⟩
  · by_cases e : a = D
    · subst e; rw [upd_same]; exact fun z => nomatch z
    · rw [upd_ne e]; exact h
/-- at the end the list stands -/
theorem Cmp.fin (c : Cmp H1 α1 N1 D H α μ.length) (R : Rel K μ α H) (hD : H1 D = none) (hh : D ∉ α1.hid) : Go H1 α1 N1 H ⟨α.m, α1.hid⟩ μ.length ∧ Rel K μ ⟨α.m, α1.hid⟩ H ∧ ¬ Lv ⟨α.m, α1.hid⟩ D ∧ Ge H α μ.length H ⟨α.m, α1.hid⟩ μ.length := by
  have sub : ∀ a, Lv ⟨α.m, α1.hid⟩ a → Lv α a := fun a e => by
    rcases e with e | e
    · exact .inl e
    · exact .inr (by rw [c.hid]; exact List.mem_cons_of_mem _ e)
  have g : Ge H α μ.length H ⟨α.m, α1.hid⟩ μ.length := ⟨Nat.le_refl _, fun a o h n => ⟨h, fun e => n (sub a e)⟩, fun _ _ h => .inl h⟩
  refine ⟨⟨c.len, c.keep, c.there, fun a e => ?_, c.newm, rfl, c.hk⟩, ⟨R.inj, R.dom, fun n c h => (R.cell n c h).ge g rfl (fun _ _ => rfl) fun _ _ _ h => h, fun n a e h => R.dis n a e (by rw [c.hid]; exact List.mem_cons_of_mem _ h), fun a ha => R.hl a (by rw [c.hid]; exact List.mem_cons_of_mem _ ha)⟩, fun e => ?_, g⟩
  · rcases e with ⟨n, e⟩ | e
    · exact c.new n a e
    · exact .inl (.inr e)
  · rcases e with ⟨n, e⟩ | e
    · exact R.dis n D e (by rw [c.hid]; exact List.mem_cons_self)
    · exact hh e
end
theorem t_lc {K : PySem.W.Frag} {W : WS} {mi : MI} {g : MG} {t : MT} {m : ME} {vs : List Nat} {σ : L2.St} {H : Hp} {Q : VK} (h : tM K W (mLc mi g t m vs) σ H Q) : tLc (tMI K W mi) (tCG K vs g) (tMT K W0 t) (tM K W0 m) vs σ H Q := by
  obtain ⟨e, μ, α, h⟩ := At.of h
  refine h.bind fun it μ1 J H1 α1 g1 y h1 => ?_
  obtain ⟨ds, gd⟩ := it
  have y : Yields K J ds gd H1 α1 μ1.length := y
  have h1 : At K W (RV K) Q e σ μ1 α1 H1 ((loopC gd g t m (wipeE e vs) ds [] μ1).bind fun ys μ2 => .ok (.lst ys) μ2) := h1
  intro D hD
  obtain ⟨R0, G0, C0⟩ := h1.rel.begin hD
  have hh := h1.rel.nohid hD
  let St' (i : Nat) (H : Hp) : Prop := ∃ μ α acc xs, Cmp H1 α1 μ1.length D H α μ.length ∧ Ge H1 α1 μ1.length H α μ.length ∧ Rel K μ α H ∧ H D = some (.lst xs) ∧ Rps K H α μ.length acc xs ∧ acc.length ≤ 16777216 ∧
    Post K W H1 α1 μ1.length (RV K) Q ((loopC gd g t m (wipeE e vs) (ds.drop i) acc μ).bind fun ys μ2 => .ok (.lst ys) μ2)
  refine ⟨fun i m H => m = ds.length - i ∧ i ≤ ds.length ∧ St' i H, ⟨ds.length, by simp, Nat.zero_le _, μ1, _, [], [], C0, G0, R0, upd_same, Rps.nil, by decide, h1.post⟩, ?_⟩
  rintro i k H ⟨rfl, hle, μ, α, acc, xs, C, G, R, hx, rx, hz, p⟩
  by_cases hlt : i < ds.length
  · obtain ⟨d, hd⟩ : ∃ d, ds[i]? = some d := ⟨ds[i], List.getElem?_eq_getElem hlt⟩
    have hdr : ds.drop i = d :: ds.drop (i + 1) := by
      have e0 : ds[i] = d := by rw [List.getElem?_eq_getElem hlt] at hd; exact Option.some.inj hd
      rw [← e0]; exact List.drop_eq_getElem_cons hlt
    rw [hdr] at p
    unfold loopC at p
    by_cases ok : OkG gd μ
    · rw [if_pos ok] at p
      obtain ⟨jg, jy⟩ := y.go H α μ G R ok i d hd
      refine .inr ⟨jg, fun H' => St' (i + 1) H', fun H' hs' => ⟨ds.length - (i + 1), by omega, rfl, hlt, hs'⟩, fun x H' hy => ?_⟩
      obtain ⟨gy, Ry, ry⟩ := jy x H' hy
      have C := C.go hD gy
      have G := G.trans gy.ge
      have rx := Rps.go gy rx
      have hx : H' D = some (.lst xs) := (gy.hk D (by rw [C.hid]; exact List.mem_cons_self)).trans hx
      have en : EnR K H' α μ.length (wipeE e vs) (L2.wipe σ vs) := (h1.en.ge G).wipe vs
      cases q : g d (wipeE e vs) μ with
      | exc C x e' μ1 => rw [q] at p; exact p.elim
      | stuck => rw [q] at p; exact p.elim
      | ok e1 μ2 =>
        rw [q] at p
        by_cases em : μ2 = μ
        · subst em
          simp only [if_true] at p
          refine ⟨d, _, μ2, α, ry, en, Ry, e1, μ2, q, rfl, fun σ2 en2 w2 => ⟨w2.trans (wipe_wipe vs), ?_⟩⟩
          refine ⟨e1, μ2, α, en2, Ry, trivial, ?_⟩
          cases q2 : t e1 μ2 with
          | exc C x e' μ1 => rw [q2] at p; exact p.elim
          | stuck => rw [q2] at p; exact p.elim
          | ok b μ3 =>
            rw [q2] at p
            intro b' H3 α3 g3 R3 eb
            cases eb
            have C := C.go hD g3
            have G := G.trans g3.ge
            have rx := Rps.go g3 rx
            have hx : H3 D = some (.lst xs) := (g3.hk D (by rw [← g3.hid, C.hid]; exact List.mem_cons_self)).trans hx
            cases b with
            | false => exact ⟨μ3, α3, acc, xs, C, G, R3, hx, rx, hz, p⟩
            | true =>
              simp only [if_true, Res.bind0_ok] at p ⊢
              refine ⟨e1, μ3, α3, en2.go g3, R3, trivial, ?_⟩
              cases q3 : m e1 μ3 with
              | exc C x e' μ1 => rw [q3] at p; exact p.elim
              | stuck => rw [q3] at p; exact p.elim
              | ok yd μ4 =>
                rw [q3] at p
                intro yv H4 α4 g4 R4 ry4
                have C := C.go hD g4
                have G := G.trans g4.ge
                have rx := Rps.go g4 rx
                have hm4 : D ∈ α4.hid := by rw [C.hid]; exact List.mem_cons_self
                have hx : H4 D = some (.lst xs) := (g4.hk D (by rw [← g4.hid]; exact hm4)).trans hx
                by_cases hc : acc.length < 16777216
                · simp only [Res.bind0_ok, if_pos hc] at p
                  have gu : Ge H4 α4 μ4.length (upd H4 D (.lst (xs ++ [yv]))) α4 μ4.length := ge_upd hm4
                  exact ⟨xs, hx, by rw [rx.length, sizeLine_eq]; exact hc, μ4, α4, acc ++ [yd], xs ++ [yv], C.upd hD hh, G.trans gu, R4.upd hm4, upd_same, Rps.ge gu (rx.append (Rps.cons ry4 Rps.nil)), by rw [List.length_append]; exact hc, p⟩
                · simp only [Res.bind0_ok, if_neg hc] at p; exact p.elim
        · simp only [if_neg em] at p; exact p.elim
    · rw [if_neg ok] at p; exact p.elim
  · have hi : i = ds.length := Nat.le_antisymm hle (Nat.le_of_not_lt hlt)
    subst hi
    rw [List.drop_length] at p
    unfold loopC at p
    by_cases ok : OkG gd μ
    · rw [if_pos ok] at p
      obtain ⟨g5, R5, n5, G5⟩ := C.fin R hD hh
      refine .inl ⟨y.stop H α μ G R ok, p _ _ _ g5 R5 ?_⟩
      show Rp _ _ _ _ _ _
      unfold Rp
      exact ⟨line_of hz, D, xs, rfl, ⟨hx, n5⟩, Rps.ge G5 rx⟩
    · rw [if_neg ok] at p; exact p.elim
section
variable {X : Cx} {W : WS} {pos spos : Pos} {elt tg iter : Expr} {ifs : List Expr} {scope : Scope} {own : List (Str × Nat)} {mi : MI} {g : MG} {t : MT} {m : ME}
theorem d_lc {vs : List Nat} (hv : own.map (·.2) = vs) (hc : X.calm = true) (hN : X.N.Nodup) (hi : PI X tg iter (tMI X.K W mi)) (ok : BlkOk X.N X.env.scope scope own)
    (hg : ∀ (s : Shared) (H : Hp) (C : Addr) (cl : List (Str × Addr)) (fp : List Addr), PG (X.blk s H scope (compEnvC scope cl C X.env) fp) tg (tCG X.K vs g)) (ht : ∀ (s : Shared) (H : Hp) (C : Addr) (cl : List (Str × Addr)) (fp : List Addr), PTs (X.blk s H scope (compEnvC scope cl C X.env) fp) ifs (tMT X.K W0 t))
    (he : ∀ (s : Shared) (H : Hp) (C : Addr) (cl : List (Str × Addr)) (fp : List Addr), PE (X.blk s H scope (compEnvC scope cl C X.env) fp) elt (tM X.K W0 m)) (hs : ∀ x, foldedSetIterable iter X.env x = pure x := by intro _; rfl) :
    PE X (.ListComp elt [⟨tg, iter, ifs, 0⟩] scope pos) (tM X.K W (mLc mi g t m vs)) := by
  subst hv
  exact (pe_lc hc hN hi ok hg ht he hs).imp fun σ H Q h => t_lc h
theorem d_setLc {vs : List Nat} {i : Nat} {y : Str} {py : Pos} (hh : i ∉ W.held) (hv : own.map (·.2) = vs) (hc : X.calm = true) (hN : X.N.Nodup) (hy : X.N[i]? = some y) (hyl : X.env.scope.names.lookup y = some .local)
    (hsw : swapsWith (.ListComp elt [⟨tg, iter, ifs, 0⟩] scope pos) (some (.Name y py)) spos.line X.env = pure true) (hi : PI X tg iter (tMI X.K W mi)) (ok : BlkOk X.N X.env.scope scope own)
    (hg : ∀ (s : Shared) (H : Hp) (C : Addr) (cl : List (Str × Addr)) (fp : List Addr), PG (X.blk s H scope (compEnvC scope cl C X.env) fp) tg (tCG X.K vs g)) (ht : ∀ (s : Shared) (H : Hp) (C : Addr) (cl : List (Str × Addr)) (fp : List Addr), PTs (X.blk s H scope (compEnvC scope cl C X.env) fp) ifs (tMT X.K W0 t))
    (he : ∀ (s : Shared) (H : Hp) (C : Addr) (cl : List (Str × Addr)) (fp : List Addr), PE (X.blk s H scope (compEnvC scope cl C X.env) fp) elt (tM X.K W0 m)) (hs : ∀ x, foldedSetIterable iter X.env x = pure x := by intro _; rfl) :
    PS X (.Assign [.Name y py] (.ListComp elt [⟨tg, iter, ifs, 0⟩] scope pos) spos) (tMS X.K W (mAsg (mLc mi g t m vs) (oName i))) := by
  subst hv
  refine (ps_setLc hc hN hy hyl hsw hi ok hg ht he hs).imp fun D σ H h => ?_
  obtain ⟨e, μ, α, h⟩ := AtS.of h
  have h2 : tM X.K W (mLc mi g t m (own.map (·.2))) σ H (fun x H1 => gName i x σ H1 D.nx) := by
    refine h.bind (R := RV X.K) fun d μ1 v H1 α1 g1 r h1 => ?_
    exact h1.nx (h1.en.set r i) (W.set hh h1.sd)
  exact t_lc h2
end
end MP
end
set_option Elab.async false
set_option linter.all false
set_option maxRecDepth 100000
set_option maxHeartbeats 1000000
noncomputable section
namespace MP
open PySem PySem.Spec PyProof.Rows L2
/-! ### defs -/
abbrev WF (E : XK) : WS := ⟨fun c d _ H => E c d H, fun _ _ _ _ => True, [], fun _ _ => trivial, fun _ _ => trivial⟩
/-- the promise of a def that does f -/
def spM (K : PySem.W.Frag) (n : Nat) (f : FN) : Sp := fun vs H Q E => ∃ ds μ α, ds.length = n ∧ Rps K H α μ.length ds vs ∧ Rel K μ α H ∧ Post K (WF E) H α μ.length (RV K) Q (f ds μ)
def en0 (n : Nat) (ds : List D) : En := ds.map some ++ List.replicate (n - ds.length) none
/-- what a body makes of its arguments; n: the number of its slots -/
def fnM (n : Nat) (m : MS) : FN := fun ds μ => match m (en0 n ds) μ with
  | .ok (.rt d) μ' => .ok d μ'
  | .ok (.nx _) μ' => .ok .non μ'
  | .exc C x _ μ' => .exc C x [] μ'
  | _ => .stuck
theorem enR_start {K : PySem.W.Frag} {H : Hp} {α : TR} {M : Nat} {ds : List D} {vs : List V} {N : List Str} (r : Rps K H α M ds vs) : EnR K H α M (en0 N.length ds) (L2.start N vs) := by
  have hl := r.length
  refine ⟨by unfold en0 L2.start; simp [hl], fun i d q => ?_⟩
  unfold en0 at q
  by_cases hi : i < ds.length
  · rw [List.getElem?_append_left (by rw [List.length_map]; exact hi), List.getElem?_map] at q
    obtain ⟨d', h1, h2⟩ := Option.map_eq_some_iff.mp q
    cases h2
    obtain ⟨v, hv, rv⟩ := r.get h1
    refine ⟨v, ?_, rv⟩
    unfold L2.start
    rw [List.getElem?_append_left (by rw [List.length_map, hl]; exact hi), List.getElem?_map, hv]; rfl
  · rw [List.getElem?_append_right (by rw [List.length_map]; exact Nat.le_of_not_lt hi)] at q
    rw [List.getElem?_replicate] at q
    split at q <;> cases q
section
variable {P : Program} {w : World} {K : PySem.W.Frag} {mg : Str → Option Value} {base : Heap}
theorem read_fn {N : List Str} {n : Nat} {m : MS} {vs : List V} {H : Hp} {Q : VK} {E : XK} (h : spM K n (fnM N.length m) vs H Q E) : tMS K (WF E) m { nx := fun _ H' => Q .non H', rt := Q } (L2.start N vs) H := by
  obtain ⟨ds, μ, α, hn, r, R, p⟩ := h
  refine ⟨en0 N.length ds, μ, α, enR_start r, R, trivial, ?_⟩
  unfold fnM at p
  cases q : m (en0 N.length ds) μ with
  | stuck => rw [q] at p; exact p
  | exc C x e μ' =>
    rw [q] at p
    exact fun v dd σ' H' α' g R' _ _ hd rx => p v dd [] H' α' g R' ⟨rfl, fun i d z => by simp at z⟩ trivial hd rx
  | ok f μ' =>
    rw [q] at p
    cases f with
    | nx e => exact fun σ' H' α' g R' _ _ => p .non H' α' g R' rp_non
    | rt d => exact fun v H' α' g R' r => p v H' α' g R' r
    | bk e => exact p.elim
    | ct e => exact p.elim
/-- a def of the text does what its body's reading does -/
theorem ok_fn {x qual : Str} {st : Stmt} {f : Addr} {fd : FuncData} {N ps : List Str} {k : Nat} {m : MS} (F : FunD K x qual (defArgs st) (defBody st) (defScope st) [] [] f fd) (S : FnScope N ps (defScope st))
    (hbody : ∀ (cdv : Value) (A : Around) (outer : List Env) (s : Shared) (H : Hp) (E : XK), Room k (A.deeper (envOfC qual (defScope st) s.heap.objs.size f cdv)) → Takes (cxOf (L2.CX P w) P w K mg base N qual (defScope st) f cdv A outer s H E) (WF E).w →
      PSs (cxOf (L2.CX P w) P w K mg base N qual (defScope st) f cdv A outer s H E) (defBody st) (tMS K (WF E) m)) : FnOk P w K mg base (L2.CX P w) (k + 1) f fd ps (spM K ps.length (fnM N.length m)) := by
  refine F.ok S (fun vs H Q E h => ?_) (fun cdv A outer s H vs Q E hr h => ⟨tMS K (WF E) m, hbody cdv A outer s H E hr (takes_of rfl rfl rfl rfl), read_fn h⟩)
  obtain ⟨ds, μ, α, hn, r, _⟩ := h
  rw [r.length, hn]
end
/-! ### what leaves a def stands for itself -/
def frz : Nat → Mem → Nat → D → Option D
  | 0, _, _, _ => none
  | k + 1, μ, N, .tup ds => (ds.mapM (frz k μ N)).map .tup
  | k + 1, μ, N, .lst ds => (ds.mapM (frz k μ N)).map .lst
  | k + 1, μ, N, .ref n => if n < N then some (.ref n) else match μ[n]? with
    | some (.lst ds) => (ds.mapM (frz k μ N)).map .lst
    | _ => none
  | _ + 1, _, _, d => some d
def frzC (k : Nat) (μ : Mem) (N : Nat) : Cell → Option Cell
  | .dead => none
  | .lst ds => (ds.mapM (frz k μ N)).map .lst
  | .dct kvs => ((kvs.map (·.2)).mapM (frz k μ N)).map fun ds => .dct ((kvs.map (·.1)).zip ds)
  | .ins C fs => ((fs.map (·.2)).mapM (frz k μ N)).map fun ds => .ins C ((fs.map (·.1)).zip ds)
mutual
/-- cells below N alone -/
def Bel (N : Nat) : D → Prop
  | .tup ds => Bels N ds
  | .lst ds => Bels N ds
  | .ref n => n < N
  | _ => True
def Bels (N : Nat) : List D → Prop
  | [] => True
  | d :: ds => Bel N d ∧ Bels N ds
end
section
variable {K : PySem.W.Frag} {H : Hp} {α : TR} {N N' : Nat} {μ μ' : Mem}
mutual
theorem rb_of : ∀ {d : D} {v : V}, Rp K H α N d v → Bel N d
  | .non, _, _ => by unfold Bel; trivial
  | .bl _, _, _ => by unfold Bel; trivial
  | .int _, _, _ => by unfold Bel; trivial
  | .str _, _, _ => by unfold Bel; trivial
  | .scr _, _, _ => by unfold Bel; trivial
  | .tup ds, v, h => by unfold Rp at h; unfold Bel; obtain ⟨_, a, xs, _, _, r⟩ := h; exact rbs_of r
  | .lst ds, v, h => by unfold Rp at h; unfold Bel; obtain ⟨_, a, xs, _, _, r⟩ := h; exact rbs_of r
  | .ref n, v, h => by unfold Rp at h; unfold Bel; exact h.1
theorem rbs_of : ∀ {ds : List D} {vs : List V}, Rps K H α N ds vs → Bels N ds
  | [], _, _ => by unfold Bels; trivial
  | d :: ds, vs, h => by
    obtain ⟨v, r, _, h1, h2⟩ := Rps.cons_inv h
    unfold Bels
    exact ⟨rb_of h1, rbs_of h2⟩
end
/-- the cells from N on are given up -/
def cutA (α : TR) (N : Nat) : TR := ⟨fun n => if n < N then α.m n else none, α.hid⟩
theorem cutA_at {n : Nat} {a : Addr} (h : (cutA α N).m n = some a) : n < N ∧ α.m n = some a := by
  have h : (if n < N then α.m n else none) = some a := h
  split at h
  · exact ⟨‹_›, h⟩
  · cases h
theorem cutA_lv {a : Addr} (h : Lv (cutA α N) a) : Lv α a := by
  rcases h with ⟨n, h⟩ | h
  · exact .inl ⟨n, (cutA_at h).2⟩
  · exact .inr h
mutual
theorem Rp.cut : ∀ {d : D} {v : V}, Rp K H α N' d v → Bel N d → Rp K H (cutA α N) N d v
  | .non, _, h, _ => h
  | .bl _, _, h, _ => h
  | .int _, _, h, _ => h
  | .str _, _, h, _ => h
  | .tup ds, v, h, b => by
    unfold Rp at h ⊢
    unfold Bel at b
    obtain ⟨z, a, xs, e, f, r⟩ := h
    exact ⟨z, a, xs, e, f.elim (fun q => .inl ⟨q.1, fun l => q.2 (cutA_lv l)⟩) .inr, Rps.cut r b⟩
  | .lst ds, v, h, b => by
    unfold Rp at h ⊢
    unfold Bel at b
    obtain ⟨z, a, xs, e, f, r⟩ := h
    exact ⟨z, a, xs, e, ⟨f.1, fun l => f.2 (cutA_lv l)⟩, Rps.cut r b⟩
  | .scr ns, v, h, _ => by
    unfold Rp at h ⊢
    obtain ⟨a, e, f⟩ := h
    exact ⟨a, e, f.elim (fun q => .inl ⟨q.1, fun l => q.2 (cutA_lv l)⟩) .inr⟩
  | .ref n, v, h, b => by
    unfold Rp at h ⊢
    unfold Bel at b
    exact ⟨b, fun a e => h.2 a (cutA_at e).2⟩
theorem Rps.cut : ∀ {ds : List D} {vs : List V}, Rps K H α N' ds vs → Bels N ds → Rps K H (cutA α N) N ds vs
  | [], _, h, _ => h
  | d :: ds, vs, h, b => by
    obtain ⟨v, r, rfl, h1, h2⟩ := Rps.cons_inv h
    unfold Bels at b
    exact Rps.cons (Rp.cut h1 b.1) (Rps.cut h2 b.2)
end
theorem frzs_at {k : Nat} (ih : ∀ (d d' : D) (v : V), Rp K H α μ.length d v → frz k μ N d = some d' → Rp K H (cutA α N) N d' v) : ∀ (ds ds' : List D) (vs : List V), Rps K H α μ.length ds vs → ds.mapM (frz k μ N) = some ds' → Rps K H (cutA α N) N ds' vs
  | [], ds', vs, r, h => by
    simp at h
    subst h
    rw [Rps.nil_inv r]
    exact Rps.nil
  | d :: ds, ds', vs, r, h => by
    obtain ⟨v, us, rfl, r1, r2⟩ := Rps.cons_inv r
    rw [List.mapM_cons] at h
    cases q : frz k μ N d with
    | none => rw [q] at h; simp at h
    | some p =>
      rw [q] at h
      cases q2 : ds.mapM (frz k μ N) with
      | none => rw [q2] at h; simp at h
      | some qs =>
        rw [q2] at h
        simp at h
        subst h
        exact Rps.cons (ih d p v r1 q) (frzs_at ih ds qs us r2 q2)
theorem mapM_len {β γ : Type} {f : β → Option γ} : ∀ {l : List β} {l' : List γ}, l.mapM f = some l' → l'.length = l.length
  | [], l', h => by simp at h; subst h; rfl
  | x :: l, l', h => by
    rw [List.mapM_cons] at h
    cases q : f x with
    | none => rw [q] at h; simp at h
    | some p =>
      rw [q] at h
      cases q2 : l.mapM f with
      | none => rw [q2] at h; simp at h
      | some qs =>
        rw [q2] at h
        simp at h
        subst h
        rw [List.length_cons, List.length_cons, mapM_len q2]
theorem frz_at (R : Rel K μ α H) : ∀ (k : Nat) (d d' : D) (v : V), Rp K H α μ.length d v → frz k μ N d = some d' → Rp K H (cutA α N) N d' v
  | 0, _, _, _, _, h => by unfold frz at h; cases h
  | k + 1, .non, d', v, r, h => by unfold frz at h; cases h; exact r
  | k + 1, .bl _, d', v, r, h => by unfold frz at h; cases h; exact r
  | k + 1, .int _, d', v, r, h => by unfold frz at h; cases h; exact r
  | k + 1, .str _, d', v, r, h => by unfold frz at h; cases h; exact r
  | k + 1, .scr _, d', v, r, h => by unfold frz at h; cases h; exact Rp.cut r (by unfold Bel; trivial)
  | k + 1, .tup ds, d', v, r, h => by
    unfold frz at h
    obtain ⟨es, h1, rfl⟩ := Option.map_eq_some_iff.mp h
    unfold Rp at r ⊢
    obtain ⟨z, a, xs, e, f, r2⟩ := r
    exact ⟨by rw [mapM_len h1]; exact z, a, xs, e, f.elim (fun q => .inl ⟨q.1, fun l => q.2 (cutA_lv l)⟩) .inr, frzs_at (frz_at R k) ds es xs r2 h1⟩
  | k + 1, .lst ds, d', v, r, h => by
    unfold frz at h
    obtain ⟨es, h1, rfl⟩ := Option.map_eq_some_iff.mp h
    unfold Rp at r ⊢
    obtain ⟨z, a, xs, e, f, r2⟩ := r
    exact ⟨by rw [mapM_len h1]; exact z, a, xs, e, ⟨f.1, fun l => f.2 (cutA_lv l)⟩, frzs_at (frz_at R k) ds es xs r2 h1⟩
  | k + 1, .ref n, d', v, r, h => by
    unfold frz at h
    split at h
    · rename_i hn
      cases h
      exact Rp.cut r (by unfold Bel; exact hn)
    · rename_i hn
      split at h
      · rename_i ds q
        obtain ⟨es, h1, rfl⟩ := Option.map_eq_some_iff.mp h
        obtain ⟨a, xs, ha, rfl, h0, rx, hz⟩ := cel_at R r q
        unfold Rp
        refine ⟨by rw [mapM_len h1]; exact hz, a, xs, rfl, ⟨h0, fun l => ?_⟩, frzs_at (frz_at R k) ds es xs rx h1⟩
        rcases l with ⟨m, l⟩ | l
        · obtain ⟨l1, l2⟩ := cutA_at l
          rw [R.inj _ _ _ l2 ha] at l1
          exact hn l1
        · exact R.dis n a ha l
      · cases h
end
open Classical in
/-- the store behind a def: what was there ahead of it -/
def sealM (μ μ' : Mem) : Option Mem := (List.range μ.length).mapM fun n => match μ'[n]?, μ[n]? with
  | some c', some c => if c' = c then some c else frzC 40 μ' μ.length c'
  | _, _ => none
def sealR (μ : Mem) : Res D → Res D
  | .ok d μ' => match frz 40 μ' μ.length d, sealM μ μ' with
    | some d', some μ'' => .ok d' μ''
    | _, _ => .ok d μ'
  | r => r
def sealF (f : FN) : FN := fun ds μ => sealR μ (f ds μ)
theorem mapM_get {β γ : Type} {f : β → Option γ} : ∀ {l : List β} {l' : List γ} {i : Nat} {y : γ}, l.mapM f = some l' → l'[i]? = some y → ∃ x, l[i]? = some x ∧ f x = some y
  | [], l', i, y, h, e => by simp at h; subst h; simp at e
  | x :: l, l', i, y, h, e => by
    rw [List.mapM_cons] at h
    cases q : f x with
    | none => rw [q] at h; simp at h
    | some p =>
      rw [q] at h
      cases q2 : l.mapM f with
      | none => rw [q2] at h; simp at h
      | some qs =>
        rw [q2] at h
        simp at h
        subst h
        cases i with
        | zero => simp at e; subst e; exact ⟨x, rfl, q⟩
        | succ i => simp at e; exact mapM_get (l := l) (i := i) q2 e
theorem seal_rel {K : PySem.W.Frag} {H H' : Hp} {α α' : TR} {μ μ' μ'' : Mem} (R : Rel K μ α H) (R' : Rel K μ' α' H') (g : Go H α μ.length H' α' μ'.length) (h : sealM μ μ' = some μ'') :
    μ''.length = μ.length ∧ Rel K μ'' (cutA α' μ.length) H' ∧ Go H α μ.length H' (cutA α' μ.length) μ.length := by
  have hl : μ''.length = μ.length := by rw [mapM_len h, List.length_range]
  refine ⟨hl, ⟨fun n m a h1 h2 => R'.inj n m a (cutA_at h1).2 (cutA_at h2).2, fun n a h1 => by rw [hl]; exact (cutA_at h1).1, fun n c hc => ?_, fun n a h1 => R'.dis n a (cutA_at h1).2, R'.hl⟩,
    ⟨Nat.le_refl _, g.keep, g.there, fun a e => g.new a (cutA_lv e), fun n a e => g.newm n a (cutA_at e).2, g.hid, g.hk⟩⟩
  rw [hl]
  obtain ⟨n', hn', hf⟩ := mapM_get h hc
  obtain ⟨hlt, e1⟩ := List.getElem?_eq_some_iff.mp hn'
  rw [List.getElem_range] at e1
  subst e1
  rw [List.length_range] at hlt
  have cm : (cutA α' μ.length).m n = α'.m n := if_pos hlt
  cases q1 : μ'[n]? with
  | none => simp only [q1] at hf; cases hf
  | some c' => cases q2 : μ[n]? with
    | none => simp only [q1, q2] at hf; cases hf
    | some c0 =>
      simp only [q1, q2] at hf
      have k1 := R'.cell n c' q1
      split at hf
      · rename_i e
        cases hf
        subst e
        have k0 := R.cell n c' q2
        cases c' with
        | dead => exact cm.trans k1
        | lst ds =>
          obtain ⟨z, a, xs, h1, h2, h3⟩ := k1
          obtain ⟨_, _, _, _, _, r0⟩ := k0
          exact ⟨z, a, xs, cm.trans h1, h2, Rps.cut h3 (rbs_of r0)⟩
        | dct kvs =>
          obtain ⟨a, xs, h1, h2, h3, h4⟩ := k1
          obtain ⟨_, _, _, _, _, r0⟩ := k0
          exact ⟨a, xs, cm.trans h1, h2, h3, Rps.cut h4 (rbs_of r0)⟩
        | ins C fs =>
          obtain ⟨a, dx, xs, h1, h2, h3, h4, h5⟩ := k1
          obtain ⟨_, _, _, _, _, _, _, r0⟩ := k0
          exact ⟨a, dx, xs, cm.trans h1, h2, h3, h4, Rps.cut h5 (rbs_of r0)⟩
      · cases c' with
        | dead => cases hf
        | lst ds =>
          obtain ⟨es, e1, rfl⟩ := Option.map_eq_some_iff.mp hf
          obtain ⟨z, a, xs, h1, h2, h3⟩ := k1
          exact ⟨by rw [mapM_len e1]; exact z, a, xs, cm.trans h1, h2, frzs_at (frz_at R' 40) _ _ _ h3 e1⟩
        | dct kvs =>
          obtain ⟨es, e1, rfl⟩ := Option.map_eq_some_iff.mp hf
          obtain ⟨a, xs, h1, h2, h3, h4⟩ := k1
          have le : (kvs.map (·.1)).length = es.length := by rw [mapM_len e1, List.length_map, List.length_map]
          refine ⟨a, xs, cm.trans h1, h2, ?_, ?_⟩
          · rw [List.map_fst_zip (Nat.le_of_eq le)]; exact h3
          · rw [List.map_snd_zip (Nat.le_of_eq le.symm)]; exact frzs_at (frz_at R' 40) _ _ _ h4 e1
        | ins C fs =>
          obtain ⟨es, e1, rfl⟩ := Option.map_eq_some_iff.mp hf
          obtain ⟨a, dx, xs, h1, h2, h3, h4, h5⟩ := k1
          have le : (fs.map (·.1)).length = es.length := by rw [mapM_len e1, List.length_map, List.length_map]
          refine ⟨a, dx, xs, cm.trans h1, h2, h3, ?_, ?_⟩
          · rw [List.map_fst_zip (Nat.le_of_eq le)]; exact h4
          · rw [List.map_snd_zip (Nat.le_of_eq le.symm)]; exact frzs_at (frz_at R' 40) _ _ _ h5 e1
theorem seal_post {K : PySem.W.Frag} {W : WS} {H : Hp} {α : TR} {μ : Mem} {Q : VK} {r : Res D} (R : Rel K μ α H) (p : Post K W H α μ.length (RV K) Q (sealR μ r)) : Post K W H α μ.length (RV K) Q r := by
  cases r with
  | exc C x e μ' => exact p
  | stuck => exact p
  | ok d μ' =>
    unfold sealR at p
    dsimp only at p
    split at p
    · rename_i d' μ'' q1 q2
      intro v H' α' g R' r
      obtain ⟨hl, R2, g2⟩ := seal_rel R R' g q2
      refine p v H' (cutA α' μ.length) (by rw [hl]; exact g2) R2 ?_
      show Rp _ _ _ _ _ _
      rw [hl]
      exact frz_at R' 40 d d' v r q1
    · exact p
theorem FnOk.seal {P : Program} {w : World} {K : PySem.W.Frag} {mg : Str → Option Value} {base : Heap} {k n : Nat} {f : Addr} {fd : FuncData} {ps : List Str} {g : FN} (F : FnOk P w K mg base (L2.CX P w) k f fd ps (spM K n g)) : FnOk P w K mg base (L2.CX P w) k f fd ps (spM K n (sealF g)) :=
  F.imp fun vs H Q E ⟨ds, μ, α, h1, h2, h3, h4⟩ => ⟨ds, μ, α, h1, h2, h3, seal_post h3 h4⟩
/-- where the plain function is known on what comes -/
theorem FnOk.to {P : Program} {w : World} {K : PySem.W.Frag} {mg : Str → Option Value} {base : Heap} {k n : Nat} {f : Addr} {fd : FuncData} {ps : List Str} {g g' : FN} (F : FnOk P w K mg base (L2.CX P w) k f fd ps (spM K n g)) (h : ∀ ds μ, ds.length = n → g' ds μ = g ds μ ∨ g' ds μ = .stuck) : FnOk P w K mg base (L2.CX P w) k f fd ps (spM K n g') :=
  F.imp fun vs H Q E ⟨ds, μ, α, h1, h2, h3, h4⟩ => ⟨ds, μ, α, h1, h2, h3, by
    rcases h ds μ h1 with e | e
    · rw [← e]; exact h4
    · rw [e] at h4; exact h4.elim⟩
/-! ### calls -/
def callR (e : En) : Res D → Res D
  | .exc C x _ μ => .exc C x e μ
  | r => r
def mCall (n : Nat) (f : FN) (as : MA) : ME := fun e μ => (as e μ).bind fun ds μ1 => if ds.length = n then callR e (f ds μ1) else .stuck
section
variable {X : Cx} {W : WS} {pos p apos : Pos} {e o : Expr} {es : List Expr} {ms : MA} {mo : ME} {x : Str} {f g C : Addr} {fd : FuncData} {ps : List Str} {k n : Nat} {F : FN}
theorem At.sp {K : PySem.W.Frag} {W : WS} {Q : VK} {e : En} {σ : L2.St} {μ : Mem} {α : TR} {H : Hp} {ds : List D} {vs : List V} {F : FN} (h : At K W (RV K) Q e σ μ α H (if ds.length = n then callR e (F ds μ) else .stuck)) (r : Rps K H α μ.length ds vs) : spM K n F vs H Q (WE W.w σ) := by
  by_cases c : ds.length = n
  · rw [if_pos c] at h
    refine ⟨ds, μ, α, c, r, h.rel, ?_⟩
    have p := h.post
    cases q : F ds μ with
    | ok d μ1 => rw [q] at p; exact p
    | stuck => rw [q] at p; exact p
    | exc C x e' μ1 =>
      rw [q] at p
      exact fun v dd σ' H' α' g R' _ _ hd rx => p v dd σ H' α' g R' (h.en.go g) (W.ge g.ge h.sd) hd rx
  · rw [if_neg c] at h; exact h.post.elim
theorem d_call (G : FnOk X.prog X.w X.K X.mg X.base (L2.CX X.prog X.w) k f fd ps (spM X.K n F)) (hr : Room k X.A) (hg : Gl X x) (hm : X.mg x = some (.ref f)) (hk : PySem.W.keepIn X.K (.ref f) = true) (hb : Binds X.K fd ps []) (tk : Takes X W.w)
    (ha : PA X (e :: es) (tMA X.K W ms)) (hdb : (x == ("__debug__" : Str)) = false := by decide) (he : starEach (e :: es) X.env = (false, eval e X.env) :: starEach es X.env := by rfl) (hpl : (backTo pos (starEach es X.env)).any (·.1) = false := by rfl) :
    PE X (.Call (.Name x p) (e :: es) [] pos) (tM X.K W (mCall n F ms)) := (pe_callS G hr hg hm hk hb (fun σ => passAt tk σ) ha hdb he hpl).imp fun σ H Q h => by
  obtain ⟨e, μ, α, h⟩ := At.of h
  exact h.bind fun ds μ1 vs H1 α1 g1 r1 h1 => h1.sp r1
end
end MP
end
set_option Elab.async false
set_option linter.all false
set_option maxRecDepth 100000
set_option maxHeartbeats 1000000
noncomputable section
namespace MP
open PySem PySem.Spec PyProof.Rows L2
/-! ### instances -/
/-- what the text says of a class -/
def ClsOk (K : PySem.W.Frag) (C : Str) : Prop := Cls K (He.ga K C)
def NoA (K : PySem.W.Frag) (C f : Str) : Prop := NoAttr K (He.ga K C) f
section
variable {K : PySem.W.Frag} {H : Hp} {α : TR} {N : Nat}
theorem flds_at {f : Str} {d : D} : ∀ {fs : List (Str × D)} {xs : List (Str × V)}, xs.map (·.1) = fs.map (·.1) → Rps K H α N (fs.map (·.2)) (xs.map (·.2)) → fs.lookup f = some d → ∃ v, xs.lookup f = some v ∧ Rp K H α N d v
  | [], _, _, _, h => by cases h
  | (g, d0) :: fs, [], e, _, _ => by cases e
  | (g, d0) :: fs, (g', v0) :: xs, e, r, h => by
    simp only [List.map_cons, List.cons.injEq] at e
    obtain ⟨e1, e2⟩ := e
    obtain ⟨v, us, e3, r1, r2⟩ := Rps.cons_inv r
    simp only [List.map_cons, List.cons.injEq] at e3
    obtain ⟨rfl, rfl⟩ := e3
    have e1 : g' = g := e1
    subst e1
    rw [List.lookup_cons] at h ⊢
    cases q : f == g' with
    | true => rw [q] at h; cases h; exact ⟨v0, rfl, r1⟩
    | false => rw [q] at h; exact flds_at e2 r2 h
theorem flds_none {f : Str} : ∀ {fs : List (Str × D)} {xs : List (Str × V)}, xs.map (·.1) = fs.map (·.1) → fs.lookup f = none → xs.lookup f = none
  | [], xs, e, h => by cases xs with | nil => rfl | cons x xs => cases e
  | (g, d0) :: fs, [], e, _ => by cases e
  | (g, d0) :: fs, (g', v0) :: xs, e, h => by
    simp only [List.map_cons, List.cons.injEq] at e
    obtain ⟨e1, e2⟩ := e
    have e1 : g' = g := e1
    subst e1
    rw [List.lookup_cons] at h ⊢
    cases q : f == g' with
    | true => rw [q] at h; cases h
    | false => rw [q] at h; exact flds_none e2 h
def putD (f : Str) (v : D) : List (Str × D) → List (Str × D)
  | [] => [(f, v)]
  | (g, x) :: r => if g = f then (g, v) :: r else (g, x) :: putD f v r
theorem put_at {f : Str} {d : D} {v : V} (rd : Rp K H α N d v) : ∀ {fs : List (Str × D)} {xs : List (Str × V)}, xs.map (·.1) = fs.map (·.1) → Rps K H α N (fs.map (·.2)) (xs.map (·.2)) → (putF f v xs).map (·.1) = (putD f d fs).map (·.1) ∧ Rps K H α N ((putD f d fs).map (·.2)) ((putF f v xs).map (·.2))
  | [], xs, e, _ => by
    cases xs with
    | nil => exact ⟨rfl, Rps.cons rd Rps.nil⟩
    | cons x xs => cases e
  | (g, d0) :: fs, [], e, _ => by cases e
  | (g, d0) :: fs, (g', v0) :: xs, e, r => by
    simp only [List.map_cons, List.cons.injEq] at e
    obtain ⟨e1, e2⟩ := e
    have e1 : g' = g := e1
    subst e1
    obtain ⟨v', us, e3, r1, r2⟩ := Rps.cons_inv r
    simp only [List.map_cons, List.cons.injEq] at e3
    obtain ⟨rfl, rfl⟩ := e3
    unfold putF putD
    by_cases q : g' = f
    · rw [if_pos q, if_pos q]
      exact ⟨by simp only [List.map_cons, e2], Rps.cons rd r2⟩
    · rw [if_neg q, if_neg q]
      obtain ⟨h1, h2⟩ := put_at rd e2 r2
      exact ⟨by simp only [List.map_cons, h1], Rps.cons r1 h2⟩
theorem ins_at {μ : Mem} {n : Nat} {v : V} {C : Str} {fs : List (Str × D)} (R : Rel K μ α H) (r : Rp K H α μ.length (.ref n) v) (q : μ[n]? = some (.ins C fs)) :
    ∃ a dx xs, α.m n = some a ∧ v = .ref a ∧ H a = some (.ins (He.ga K C) dx xs) ∧ H dx = some (.own a) ∧ xs.map (·.1) = fs.map (·.1) ∧ Rps K H α μ.length (fs.map (·.2)) (xs.map (·.2)) := by
  obtain ⟨a, dx, xs, h1, h2, h3, h4, h5⟩ := R.cell n _ q
  unfold Rp at r
  exact ⟨a, dx, xs, h1, r.2 a h1, h2, h3, h4, h5⟩
end
/-- the instance that a value is -/
def insOf (μ : Mem) (d : D) : Option (Nat × Str × List (Str × D)) := match d with
  | .ref n => match μ[n]? with
    | some (.ins C fs) => some (n, C, fs)
    | _ => none
  | _ => none
theorem insOf_at {μ : Mem} {d : D} {n : Nat} {C : Str} {fs : List (Str × D)} (h : insOf μ d = some (n, C, fs)) : d = .ref n ∧ μ[n]? = some (.ins C fs) := by
  unfold insOf at h
  split at h
  · split at h
    · cases h; exact ⟨rfl, ‹_›⟩
    · cases h
  · cases h
def mFld (ok : Str → Bool) (f : Str) (o : ME) : ME := fun e μ => (o e μ).bind fun x μ1 => match insOf μ1 x with
  | some (_, C, fs) => if ok C = true then (match fs.lookup f with
    | some d => .ok d μ1
    | none => .stuck) else .stuck
  | none => .stuck
section
variable {X : Cx} {W : WS} {pos pos' p apos : Pos} {e o v : Expr} {es : List Expr} {ms : MA} {mo mv : ME} {f m x : Str} {ok : Str → Bool}
theorem d_fld (hc : ∀ C, ok C = true → ClsOk X.K C ∧ NoA X.K C f) (ho : PE X o (tM X.K W mo)) (hb : attributeBase o f X.env (eval o X.env) = eval o X.env := by rfl) : PE X (.Attribute o f pos) (tM X.K W (mFld ok f mo)) := (pe_fld ho hb).imp fun σ H Q h => by
  obtain ⟨e, μ, α, h⟩ := At.of h
  refine h.bind fun d μ1 v H1 α1 g1 r1 h1 => ?_
  split at h1
  · rename_i n C fs q
    split at h1
    · rename_i c
      split at h1
      · rename_i d1 hl
        obtain ⟨rfl, q'⟩ := insOf_at q
        obtain ⟨a, dx, xs, ha, rfl, h0, hd, e1, r2⟩ := ins_at h1.rel r1 q'
        obtain ⟨w, hw, rw_⟩ := flds_at e1 r2 hl
        exact ⟨a, _, dx, xs, w, rfl, h0, (hc C c).1, (hc C c).2, hw, h1.fin rw_⟩
      · exact h1.post.elim
    · exact h1.post.elim
  · exact h1.post.elim
/-- o.f = v -/
def mSetF (ok : Str → Bool) (f : Str) (o v : ME) : MS := fun e μ => (v e μ).bind fun d μ1 => (o e μ1).bind fun x μ2 => match insOf μ2 x with
  | some (n, C, fs) => if ok C = true ∧ fs.length < 1000 then .ok (.nx e) (μ2.set n (.ins C (putD f d fs))) else .stuck
  | none => .stuck
theorem d_setF (hc : ∀ C, ok C = true → ClsOk X.K C ∧ NoA X.K C f) (ho : PE X o (tM X.K W mo)) (hv : PE X v (tM X.K W mv)) (hs : swapsWith v (some (.Attribute o f pos')) pos.line X.env = pure false := by rfl) : PS X (.Assign [.Attribute o f pos'] v pos) (tMS X.K W (mSetF ok f mo mv)) := (ps_fld ho hv hs).imp fun D σ H h => by
  obtain ⟨e, μ, α, h⟩ := AtS.of h
  refine h.bind (R := RV X.K) fun d μ1 y H1 α1 g1 r1 h1 => ?_
  refine h1.bind (R := RV X.K) fun z μ2 w H2 α2 g2 r2 h2 => ?_
  split at h2
  · rename_i n C fs q
    split at h2
    · rename_i c
      obtain ⟨rfl, q'⟩ := insOf_at q
      obtain ⟨a, dx, xs, ha, rfl, h0, hd, e1, r3⟩ := ins_at h2.rel r2 q'
      have hl : xs.length = fs.length := by rw [← List.length_map (f := (·.1)), e1, List.length_map]
      refine ⟨a, _, dx, xs, rfl, h0, (hc C c.1).1, (hc C c.1).2, by rw [hl]; exact c.2, ?_⟩
      have gw : Go H2 α2 μ2.length (upd H2 a (.ins (He.ga X.K C) dx (putF f y xs))) α2 μ2.length := Go.write h2.rel ha
      have hlen : (μ2.set n (Cell.ins C (putD f d fs))).length = μ2.length := List.length_set
      obtain ⟨e2, r4⟩ := put_at (f := f) (Rp.go g2 r1) e1 r3
      have hda : dx ≠ a := fun z => by rw [z, h0] at hd; cases hd
      refine h2.post σ _ α2 (by rw [hlen]; exact gw) (h2.rel.write ha (fun x z => by rw [h0] at z; cases z) ⟨a, dx, _, ha, upd_same, by rw [upd_ne hda]; exact hd, e2, Rps.go gw r4⟩) (by rw [hlen]; exact h2.en.go gw) (by rw [hlen]; exact W.ge gw.ge h2.sd)
    · exact h2.post.elim
  · exact h2.post.elim
variable {E : XK} {C : Str} {fa : Addr} {fd : FuncData} {ps : List Str} {k n : Nat} {F : FN}
theorem pass_of (tk : Takes X (WF E).w) : Passes (L2.CX X.prog X.w) X E := passes_call tk fun _ _ _ _ h => h
def mMeth (C m : Str) (n : Nat) (F : FN) (o : ME) (as : MA) : ME := fun e μ => (o e μ).bind fun x μ1 => match insOf μ1 x with
  | some (_, C', fs) => if C' = C ∧ fs.lookup m = none then (as e μ1).bind fun ds μ2 => if (x :: ds).length = n then callR e (F (x :: ds) μ2) else .stuck else .stuck
  | none => .stuck
theorem At.spE {K : PySem.W.Frag} {Q : VK} {e : En} {σ : L2.St} {μ : Mem} {α : TR} {H : Hp} {ds : List D} {vs : List V} {F : FN} (h : At K (WF E) (RV K) Q e σ μ α H (if ds.length = n then callR e (F ds μ) else .stuck)) (r : Rps K H α μ.length ds vs) : spM K n F vs H Q E := h.sp r
theorem t_meth {K : PySem.W.Frag} {σ : L2.St} {H : Hp} {Q : VK} (h : tM K (WF E) (mMeth C m n F mo ms) σ H Q) : tMeth (He.ga K C) m (spM K n F) [] E (tM K (WF E) mo) (tMA K (WF E) ms) σ H Q := by
  obtain ⟨e, μ, α, h⟩ := At.of h
  refine h.bind fun d μ1 v H1 α1 g1 r1 h1 => ?_
  split at h1
  · rename_i n1 C' fs q
    split at h1
    · rename_i c
      obtain ⟨rfl, c2⟩ := c
      obtain ⟨rfl, q'⟩ := insOf_at q
      obtain ⟨a, dx, xs, ha, rfl, h0, hd, e1, r2⟩ := ins_at h1.rel r1 q'
      refine ⟨a, dx, xs, rfl, h0, flds_none e1 c2, h1.bind fun ds μ2 vs H2 α2 g2 r3 h2 => ?_⟩
      rw [List.append_nil]
      exact h2.spE (Rps.cons (Rp.go g2 r1) r3)
    · exact h1.post.elim
  · exact h1.post.elim
theorem d_meth {pl : Sem Bool} (G : FnOk X.prog X.w X.K X.mg X.base (L2.CX X.prog X.w) k fa fd ps (spM X.K n F)) (c : ClsOk X.K C) (hm : Meth X.K (He.ga X.K C) m fa) (hr : Room k X.A) (hb : Binds X.K fd ps []) (tk : Takes X (WF E).w) (ho : PE X o (tM X.K (WF E) mo)) (ha : PA X (e :: es) (tMA X.K (WF E) ms))
    (hst : starEach (e :: es) X.env = (false, eval e X.env) :: starEach es X.env := by rfl) (hpl : (backTo pos (starEach es X.env)).any (·.1) = false := by rfl)
    (ht : eval (.Call (.Attribute o m apos) (e :: es) [] pos) X.env = (do
      let ov ← eval o X.env
      standAt apos.atName
      let (f, first) ← holding [ov] (getMethod ov m pl)
      callWith pos f first (backTo pos (starEach (e :: es) X.env)) (backToKw pos (keywordEach [] X.env))) := by rfl) :
    PE X (.Call (.Attribute o m apos) (e :: es) [] pos) (tM X.K (WF E) (mMeth C m n F mo ms)) := (pe_meth ho c hm G hr hb .nil (pass_of tk) ha hst hpl ht).imp fun σ H Q h => t_meth h
theorem d_meth0 {pl : Sem Bool} (G : FnOk X.prog X.w X.K X.mg X.base (L2.CX X.prog X.w) k fa fd ps (spM X.K n F)) (c : ClsOk X.K C) (hm : Meth X.K (He.ga X.K C) m fa) (hr : Room k X.A) (hb : Binds X.K fd ps []) (tk : Takes X (WF E).w) (ho : PE X o (tM X.K (WF E) mo))
    (ht : eval (.Call (.Attribute o m apos) [] [] pos) X.env = (do
      let ov ← eval o X.env
      standAt apos.atName
      let (f, first) ← holding [ov] (getMethod ov m pl)
      callWith pos f first (backTo pos (starEach [] X.env)) (backToKw pos (keywordEach [] X.env))) := by rfl) :
    PE X (.Call (.Attribute o m apos) [] [] pos) (tM X.K (WF E) (mMeth C m n F mo mNil)) := (pe_meth0 ho c hm G hr hb .nil (pass_of tk) ht).imp fun σ H Q h => by
  obtain ⟨e, μ, α, h⟩ := At.of h
  refine h.bind fun d μ1 v H1 α1 g1 r1 h1 => ?_
  split at h1
  · rename_i n1 C' fs q
    split at h1
    · rename_i c
      obtain ⟨rfl, c2⟩ := c
      obtain ⟨rfl, q'⟩ := insOf_at q
      obtain ⟨a, dx, xs, ha, rfl, h0, hd, e1, r2⟩ := ins_at h1.rel r1 q'
      refine ⟨a, dx, xs, rfl, h0, flds_none e1 c2, ?_⟩
      exact At.spE (n := n) (ds := [.ref n1]) h1 (Rps.cons r1 Rps.nil)
    · exact h1.post.elim
  · exact h1.post.elim
/-- o.f, a property that does F -/
def mProp (C : Str) (F : FN) (o : ME) : ME := fun e μ => (o e μ).bind fun x μ1 => match insOf μ1 x with
  | some (_, C', _) => if C' = C then (match F [x] μ1 with
    | .ok d μ2 => .ok d μ2
    | _ => .stuck) else .stuck
  | none => .stuck
theorem d_prop {pa g : Addr} (G : FnOk X.prog X.w X.K X.mg X.base (L2.CX X.prog X.w) k g fd ps (spM X.K 1 F)) (c : ClsOk X.K C) (hp : PropOf X.K (He.ga X.K C) f pa g) (hr : Room (k + 1) X.A) (hb : Binds X.K fd ps []) (ho : PE X o (tM X.K W mo))
    (hab : attributeBase o f X.env (eval o X.env) = eval o X.env := by rfl) : PE X (.Attribute o f pos) (tM X.K W (mProp C F mo)) := (pe_prop (E := E0) ho c hp G hr hb .nil (fun _ _ _ _ _ _ _ ⟨_, _, _, _, _, _, _, _, _, _, _, _, z⟩ => z.elim) hab).imp fun σ H Q h => by
  obtain ⟨e, μ, α, h⟩ := At.of h
  refine h.bind fun d μ1 v H1 α1 g1 r1 h1 => ?_
  split at h1
  · rename_i n1 C' fs q
    split at h1
    · rename_i c
      subst c
      obtain ⟨rfl, q'⟩ := insOf_at q
      obtain ⟨a, dx, xs, ha, rfl, h0, hd, e1, r2⟩ := ins_at h1.rel r1 q'
      refine ⟨a, dx, xs, rfl, h0, [.ref n1], μ1, α1, rfl, Rps.cons r1 Rps.nil, h1.rel, ?_⟩
      have p := h1.post
      cases q2 : F [.ref n1] μ1 with
      | ok d μ2 => rw [q2] at p; exact p
      | exc C x e μ2 => rw [q2] at p; exact p.elim
      | stuck => rw [q2] at p; exact p.elim
    · exact h1.post.elim
  · exact h1.post.elim
/-- C(..) -/
def mMake (C : Str) (n : Nat) (F : FN) (as : MA) : ME := fun e μ => (as e μ).bind fun ds μ1 => if ds.length + 1 = n then (match F (.ref μ1.length :: ds) (μ1 ++ [.ins C []]) with
  | .ok .non μ2 => .ok (.ref μ1.length) μ2
  | .exc C x _ μ2 => .exc C x e μ2
  | _ => .stuck) else .stuck
theorem t_make {K : PySem.W.Frag} {σ : L2.St} {H : Hp} {Q : VK} (h : tM K (WF E) (mMake C n F ms) σ H Q) : tMake (He.ga K C) (spM K n F) [] E (tMA K (WF E) ms) σ H Q := by
  obtain ⟨e, μ, α, h⟩ := At.of h
  refine h.bind fun ds μ1 vs H1 α1 g1 r1 h1 x dx hx hdx hne => ?_
  by_cases c : ds.length + 1 = n
  · rw [if_pos c] at h1
    rw [List.append_nil]
    have r1 : Rps K H1 α1 μ1.length ds vs := r1
    have R1 := h1.rel.new_obj (o := .own x) hdx
    have hx1 : upd H1 dx (.own x) x = none := by rw [upd_ne (Ne.symm hne)]; exact hx
    have gd : Go H1 α1 μ1.length (upd H1 dx (.own x)) α1 μ1.length := Go.new_obj hdx (h1.rel.nohid hdx)
    have gx : Go (upd H1 dx (.own x)) α1 μ1.length (upd (upd H1 dx (.own x)) x (.ins (He.ga K C) dx [])) (addr α1 μ1.length x) (μ1.length + 1) := Go.new_cell R1 hx1
    have g := gd.trans gx
    have am : (addr α1 μ1.length x).m μ1.length = some x := if_pos rfl
    have R2 : Rel K (μ1 ++ [.ins C []]) (addr α1 μ1.length x) (upd (upd H1 dx (.own x)) x (.ins (He.ga K C) dx [])) := R1.new_cell hx1 ⟨x, dx, [], am, upd_same, by rw [upd_ne hne]; exact upd_same, rfl, Rps.nil⟩
    have hl : (μ1 ++ [Cell.ins C []]).length = μ1.length + 1 := by rw [List.length_append, List.length_singleton]
    have rx : Rp K (upd (upd H1 dx (.own x)) x (.ins (He.ga K C) dx [])) (addr α1 μ1.length x) (μ1.length + 1) (.ref μ1.length) (.ref x) := by
      unfold Rp
      exact ⟨Nat.lt_succ_self _, fun a e => by rw [am] at e; cases e; rfl⟩
    refine ⟨.ref μ1.length :: ds, μ1 ++ [.ins C []], addr α1 μ1.length x, c, by rw [hl]; exact Rps.cons rx (Rps.go g r1), R2, ?_⟩
    rw [hl]
    have p := h1.post
    cases q : F (.ref μ1.length :: ds) (μ1 ++ [.ins C []]) with
    | stuck => rw [q] at p; exact p.elim
    | exc C' y e' μ2 =>
      rw [q] at p
      exact fun v dd σ' H' α' g' R' _ hd ry => p v dd σ H' α' (g.trans g') R' (h1.en.go (g.trans g')) hd ry
    | ok d μ2 =>
      rw [q] at p
      cases d with
      | non => exact fun v H' α' g' R' rv => ⟨rp_non_iff rv, p _ H' α' (g.trans g') R' (Rp.go g' rx)⟩
      | _ => exact p.elim
  · rw [if_neg c] at h1; exact h1.post.elim
theorem d_make (G : FnOk X.prog X.w X.K X.mg X.base (L2.CX X.prog X.w) k fa fd ps (spM X.K n F)) (M : Mk X.K (He.ga X.K C) fa) (hr : Room (k + 1) X.A) (hg : Gl X x) (hm : X.mg x = some (.ref (He.ga X.K C))) (hb : Binds X.K fd ps []) (tk : Takes X (WF E).w) (ha : PA X (e :: es) (tMA X.K (WF E) ms))
    (hdb : (x == ("__debug__" : Str)) = false := by decide) (he : starEach (e :: es) X.env = (false, eval e X.env) :: starEach es X.env := by rfl) (hpl : (backTo pos (starEach es X.env)).any (·.1) = false := by rfl) :
    PE X (.Call (.Name x p) (e :: es) [] pos) (tM X.K (WF E) (mMake C n F ms)) := (pe_make M G hr hg hm hb .nil (pass_of tk) ha hdb he hpl).imp fun σ H Q h => t_make h
end
end MP
end
set_option Elab.async false
set_option linter.all false
set_option maxRecDepth 100000
set_option maxHeartbeats 1000000
noncomputable section
namespace MP
open PySem PySem.Spec PyProof.Rows L2
/-! ### * -/
section
variable {X : Cx} {W : WS} {pos : Pos} {a b : Expr} {ma mb : ME}
theorem d_mulI (ha : PE X a (tM X.K W ma)) (hb : PE X b (tM X.K W mb)) : PE X (.BinOp a .Mult b pos) (tM X.K W (mBin fMul ma mb)) := d_op op_mulA (does_I fun _ _ _ _ _ => rp_int) ha hb
theorem d_gstrE {x z : Str} (hl : z.length ≤ 16777216) (hg : Gl X x) (hm : ∃ t, X.mg x = some (.str z t)) (hd : (x == ("__debug__" : Str)) = false := by decide) : PE X (.Name x pos) (tM X.K W (mC (.str z))) := let ⟨_, h⟩ := hm; d_gstr hl hg h hd
theorem d_gintE {x : Str} {z : Int} (hg : Gl X x) (hm : ∃ t, X.mg x = some (.int z t)) (hd : (x == ("__debug__" : Str)) = false := by decide) : PE X (.Name x pos) (tM X.K W (mC (.int z))) := let ⟨_, h⟩ := hm; d_gint hg h hd
end
/-! ### defs by names -/
structure Fnc (P : Program) (w : World) (K : PySem.W.Frag) (mg : Str → Option Value) (base : Heap) (x : Str) (k n : Nat) (F : FN) : Prop where
  ex : ∃ fd ps, FnOk P w K mg base (L2.CX P w) k (He.ga K x) fd ps (spM K n F) ∧ Binds K fd ps []
  g : mg x = some (.ref (He.ga K x))
  kp : PySem.W.keepIn K (.ref (He.ga K x)) = true
structure Mtd (P : Program) (w : World) (K : PySem.W.Frag) (mg : Str → Option Value) (base : Heap) (C m : Str) (k n : Nat) (F : FN) : Prop where
  ex : ∃ fd ps, FnOk P w K mg base (L2.CX P w) k (He.ma K (He.ga K C) m) fd ps (spM K n F) ∧ Binds K fd ps []
  c : ClsOk K C
  m : Meth K (He.ga K C) m (He.ma K (He.ga K C) m)
theorem takesW0 {X : Cx} : Takes X W0.w := fun _ _ ⟨_, _, _, _, _, _, _, _, _, _, _, _, _, _, _, _, z⟩ => z.elim
theorem hu64 {k : Nat} {A : Around} (r : Room k A) : A.units + 64 < cLine := r.units
theorem hu65 {k : Nat} {A : Around} (r : Room k A) : A.units + 65 < cLine := by have := r.un; omega
section
variable {P : Program} {w : World} {K : PySem.W.Frag} {mg : Str → Option Value} {base : Heap}
theorem Fnc.seal {x : Str} {k n : Nat} {F : FN} (h : Fnc P w K mg base x k n F) : Fnc P w K mg base x k n (sealF F) := by
  obtain ⟨⟨fd, ps, h1, h2⟩, g, kp⟩ := h
  exact ⟨⟨fd, ps, FnOk.seal h1, h2⟩, g, kp⟩
theorem Fnc.to {x : Str} {k n : Nat} {F F' : FN} (h : Fnc P w K mg base x k n F) (e : ∀ ds μ, ds.length = n → F' ds μ = F ds μ ∨ F' ds μ = .stuck) : Fnc P w K mg base x k n F' := by
  obtain ⟨⟨fd, ps, h1, h2⟩, g, kp⟩ := h
  exact ⟨⟨fd, ps, FnOk.to h1 e, h2⟩, g, kp⟩
theorem Mtd.seal {C m : Str} {k n : Nat} {F : FN} (h : Mtd P w K mg base C m k n F) : Mtd P w K mg base C m k n (sealF F) := by
  obtain ⟨⟨fd, ps, h1, h2⟩, g, kp⟩ := h
  exact ⟨⟨fd, ps, FnOk.seal h1, h2⟩, g, kp⟩
theorem Mtd.to {C m : Str} {k n : Nat} {F F' : FN} (h : Mtd P w K mg base C m k n F) (e : ∀ ds μ, ds.length = n → F' ds μ = F ds μ ∨ F' ds μ = .stuck) : Mtd P w K mg base C m k n F' := by
  obtain ⟨⟨fd, ps, h1, h2⟩, g, kp⟩ := h
  exact ⟨⟨fd, ps, FnOk.to h1 e, h2⟩, g, kp⟩
theorem fnc_mk {x qual : Str} {st : Stmt} {N ps : List Str} {k : Nat} {m : MS} (g : mg x = some (.ref (He.ga K x))) (D : ∃ fd, FunD K x qual (defArgs st) (defBody st) (defScope st) [] [] (He.ga K x) fd) (S : FnScope N ps (defScope st))
    (hb : ∀ (kV doc pm : Value) (an : Option Addr) (cdv ct : Value) (us : List Value), us.length = ps.length → bindArgs (PySem.W.fnOf x qual (defArgs st) (defBody st) (defScope st) .none kV doc pm an cdv ct) ⟨us, []⟩ = pure (ps.zip us))
    (hbody : ∀ (cdv : Value) (A : Around) (outer : List Env) (s : Shared) (H : Hp) (E : XK), Room k (A.deeper (envOfC qual (defScope st) s.heap.objs.size (He.ga K x) cdv)) → Takes (cxOf (L2.CX P w) P w K mg base N qual (defScope st) (He.ga K x) cdv A outer s H E) (WF E).w →
      PSs (cxOf (L2.CX P w) P w K mg base N qual (defScope st) (He.ga K x) cdv A outer s H E) (defBody st) (tMS K (WF E) m)) : Fnc P w K mg base x (k + 1) ps.length (fnM N.length m) := by
  obtain ⟨fd, F⟩ := D
  exact ⟨⟨fd, ps, ok_fn F S hbody, F.bindsN hb⟩, g, F.kp⟩
end
section
variable {X : Cx} {W : WS} {pos p : Pos} {e : Expr} {es : List Expr} {ms : MA} {x : Str} {k n : Nat} {F : FN}
theorem c_call (G : Fnc X.prog X.w X.K X.mg X.base x k n F) (hr : Room k X.A) (tk : Takes X W.w) (ha : PA X (e :: es) (tMA X.K W ms)) (hg : Gl X x := by rfl) (hdb : (x == ("__debug__" : Str)) = false := by decide)
    (he : starEach (e :: es) X.env = (false, eval e X.env) :: starEach es X.env := by rfl) (hpl : (backTo pos (starEach es X.env)).any (·.1) = false := by rfl) : PE X (.Call (.Name x p) (e :: es) [] pos) (tM X.K W (mCall n F ms)) := by
  obtain ⟨⟨fd, ps, h1, h2⟩, g, kp⟩ := G
  exact d_call h1 hr hg g kp h2 tk ha hdb he hpl
theorem v (i : Nat) (hN : X.N[i]? = some x := by rfl) (hv : Vis X.env.scope x := by first | exact Or.inl rfl | exact Or.inr (Or.inl rfl) | exact Or.inr (Or.inr rfl)) (hd : (x == ("__debug__" : Str)) = false := by decide) (hcd : (x == ("__classdict__" : Str)) = false := by decide) :
    PE X (.Name x pos) (tM X.K W (mVar i)) := d_var hN hv hd hcd
end
end MP
end
set_option Elab.async false
set_option linter.all false
set_option maxRecDepth 100000
set_option maxHeartbeats 1000000
noncomputable section
namespace MP
open PySem PySem.Spec PyProof.Rows L2
/-! ### own exceptions: class C(ValueError): def __init__(self, value): self.value = value -/
/-- what the text says of such a class -/
structure ExOk (K : PySem.W.Frag) (C : Str) (fI : Addr) : Prop where
  oex : OexC K (He.ga K C)
  xf : XfC K (He.ga K C)
  no : PySem.W.findIn K (.ref (He.ga K C)) "value" = some none
  ini : PySem.W.findIn K (.ref (He.ga K C)) "__init__" = some (some (.ref fI))
  tI : PySem.W.typeIn K (.ref fI) = some (.type "function")
  cl : PySem.W.findIn K (.ref (He.ga K C)) "__class__" = some (some (.builtin "object.__class__"))
  sp : PySem.W.specialIn K (.builtin "object.__class__") "__get__" = some (some (.builtin "getset_descriptor.__get__"))
  tk : PySem.W.takesIn K (.builtin "object.__class__") = some true
  mr : PySem.W.mroIn K (He.ga K C) (.type "object") = some true
/-- the same as a test -/
def oexB (K : PySem.W.Frag) (C : Addr) : Bool := (match K.lookup C with
  | some ⟨.type "type", _, .cls cd, sl⟩ => (match cd.mro, sl.toList with
    | .ref C' :: bm, [_, _, _, _, some (.builtin n), _] => C' == C && n == "ValueError.__new__" && !cd.hasDel && cd.hasDict && PySem.HandSPX.refsVE bm
    | _, _ => false)
  | _ => false) && (decide (PySem.W.findIn K (.ref C) "__setattr__" = some (some (.builtin "object.__setattr__"))) && (decide (PySem.W.subIn K (.ref C) (.type "BaseException") = some true) &&
    (decide (PySem.W.typeIn K (.ref C) = some (.type "type")) && PySem.W.keepIn K (.ref C))))
theorem oexB_ok {K : PySem.W.Frag} {C : Addr} (h : oexB K C = true) : OexC K C := by
  unfold oexB at h
  obtain ⟨h1, h⟩ := Bool.and_eq_true_iff.mp h
  obtain ⟨h2, h⟩ := Bool.and_eq_true_iff.mp h
  obtain ⟨h3, h⟩ := Bool.and_eq_true_iff.mp h
  obtain ⟨h4, h5⟩ := Bool.and_eq_true_iff.mp h
  refine ⟨?_, of_decide_eq_true h2, of_decide_eq_true h3, of_decide_eq_true h4, h5⟩
  split at h1
  · rename_i dd cd sl ho
    split at h1
    · rename_i C' bm k0 k1 k2 k3 n k5 hm hs
      simp only [Bool.and_eq_true, beq_iff_eq, Bool.not_eq_true'] at h1
      obtain ⟨⟨⟨⟨rfl, rfl⟩, hdel⟩, hd⟩, hb⟩ := h1
      obtain ⟨nm, bs, mro, ns, qn, hdc, sn, sub, ab, col, del⟩ := cd
      dsimp only at hm hdel hd hb
      subst hm hdel hd
      have hsl : sl = #[k0, k1, k2, k3, some (.builtin "ValueError.__new__"), k5] := by
        obtain ⟨l⟩ := sl
        simp only at hs
        rw [hs]
      subst hsl
      exact ⟨nm, qn, ns, bs, bm, sn, sub, ab, col, dd, k0, k1, k2, k3, k5, ho, hb⟩
    · cases h1
  · cases h1
def exB (K : PySem.W.Frag) (C I : Str) : Bool := oexB K (He.ga K C) && (xfB K (He.ga K C) && (decide (PySem.W.findIn K (.ref (He.ga K C)) "value" = some none) &&
  (decide (PySem.W.findIn K (.ref (He.ga K C)) "__init__" = some (some (.ref (He.ma K (He.ga K I) "__init__")))) && (decide (PySem.W.typeIn K (.ref (He.ma K (He.ga K I) "__init__")) = some (.type "function")) &&
  (decide (PySem.W.findIn K (.ref (He.ga K C)) "__class__" = some (some (.builtin "object.__class__"))) && (decide (PySem.W.specialIn K (.builtin "object.__class__") "__get__" = some (some (.builtin "getset_descriptor.__get__"))) &&
  (decide (PySem.W.takesIn K (.builtin "object.__class__") = some true) && decide (PySem.W.mroIn K (He.ga K C) (.type "object") = some true))))))))
theorem exB_ok {K : PySem.W.Frag} {C I : Str} (h : exB K C I = true) : ExOk K C (He.ma K (He.ga K I) "__init__") := by
  unfold exB at h
  obtain ⟨h1, h⟩ := Bool.and_eq_true_iff.mp h
  obtain ⟨h2, h⟩ := Bool.and_eq_true_iff.mp h
  obtain ⟨h3, h⟩ := Bool.and_eq_true_iff.mp h
  obtain ⟨h4, h⟩ := Bool.and_eq_true_iff.mp h
  obtain ⟨h5, h⟩ := Bool.and_eq_true_iff.mp h
  obtain ⟨h6, h⟩ := Bool.and_eq_true_iff.mp h
  obtain ⟨h7, h⟩ := Bool.and_eq_true_iff.mp h
  obtain ⟨h8, h9⟩ := Bool.and_eq_true_iff.mp h
  exact ⟨oexB_ok h1, xfB_ok h2, of_decide_eq_true h3, of_decide_eq_true h4, of_decide_eq_true h5, of_decide_eq_true h6, of_decide_eq_true h7, of_decide_eq_true h8, of_decide_eq_true h9⟩
/-- the promise of that __init__ -/
def spIni (K : PySem.W.Frag) : Sp := fun vs H Q _ => ∃ a C y, vs = [.ref a, y] ∧ OexC K C ∧ PySem.W.findIn K (.ref C) "value" = some none ∧ H a = some (exo a C none) ∧
  ∀ dx, H dx = none → dx ≠ a → Q .non (upd (upd H dx (exd dx [(("value" : Str), y)])) a (exo a C (some dx)))
section
variable {P : Program} {w : World} {K : PySem.W.Frag} {mg : Str → Option Value} {base : Heap}
theorem ok_ini {name qual : Str} {st : Stmt} {f : Addr} {fd : FuncData} (F : FunD K name qual (defArgs st) (defBody st) (defScope st) [] [] f fd) (S : FnScope ["self", "value"] ["self", "value"] (defScope st))
    (hb : ∀ (cdv : Value) (A : Around) (outer : List Env) (s : Shared) (H : Hp) (E : XK), PSs (cxOf (L2.CX P w) P w K mg base ["self", "value"] qual (defScope st) f cdv A outer s H E) (defBody st) (tOst K "value" (tVar 0) (tVar 1))) :
    FnOk P w K mg base (L2.CX P w) 1 f fd ["self", "value"] (spIni K) := by
  refine F.ok S (fun vs H Q E h => ?_) (fun cdv A outer s H vs Q E hr h => ⟨_, hb cdv A outer s H E, ?_⟩)
  · obtain ⟨a, C, y, rfl, _⟩ := h; rfl
  · obtain ⟨a, C, y, rfl, h1, h2, h3, h4⟩ := h
    exact ⟨y, rfl, .ref a, rfl, a, C, rfl, h1, h2, .inl ⟨h3, h4⟩⟩
/-- such a class's __init__ as it stands at its place -/
structure Ini (P : Program) (w : World) (K : PySem.W.Frag) (mg : Str → Option Value) (base : Heap) (I : Str) : Prop where
  ex : ∃ fd, FnOk P w K mg base (L2.CX P w) 1 (He.ma K (He.ga K I) "__init__") fd ["self", "value"] (spIni K) ∧ Binds K fd ["self", "value"] []
end
/-! ### raise C(e) -/
def mRaise (C : Str) (a : ME) : MS := fun e μ => (a e μ).bind fun d μ1 => .exc C d e μ1
section
variable {X : Cx} {W : WS} {p pos pos' : Pos} {a : Expr} {ma : ME} {C I : Str}
theorem d_raise (hc : X.calm = true) (T : ExOk X.K C (He.ma X.K (He.ga X.K I) "__init__")) (G : Ini X.prog X.w X.K X.mg X.base I) (hr : Room 2 X.A) (tk : Takes X W.w) (hg : Gl X C) (hm : X.mg C = some (.ref (He.ga X.K C))) (ha : PE X a (tM X.K W ma))
    (hdb : (C == ("__debug__" : Str)) = false := by decide) (he : starEach [a] X.env = (false, eval a X.env) :: starEach [] X.env := by rfl) (hpl : (backTo pos (starEach [] X.env)).any (·.1) = false := by rfl) :
    PS X (.Raise (some (.Call (.Name C p) [a] [] pos)) none pos') (tMS X.K W (mRaise C ma)) := by
  obtain ⟨fd, h1, h2⟩ := G.ex
  refine (ps_raise hc tk (pmk_oex (ds := []) (dvs := []) T.oex T.ini T.tI h1 hr h2 .nil (fun _ _ _ _ _ _ _ ⟨_, _, _, _, _, _, _, _, _, _, _, _, z⟩ => z.elim) hg hm (pa_cons ha pa_nil he) hdb he hpl)).imp fun D σ H h => ?_
  obtain ⟨e, μ, α, h⟩ := AtS.of h
  refine h.bind (R := RV X.K) fun d μ1 v H1 α1 g1 r1 h1 => ?_
  refine ⟨(by decide : 1 ≤ 1000), fun x hx => ⟨x, He.ga X.K C, v, rfl, T.oex, T.no, upd_same, fun dx hdx hne => ⟨rfl, dx, [("value", v)], upd_same, ?_, ?_, ?_⟩⟩⟩
  · rw [upd_ne hne, upd_same]
  · rw [upd_ne hne] at hdx; exact hdx
  · have hdx1 : H1 dx = none := by rw [upd_ne hne] at hdx; exact hdx
    have eH : upd (del (upd (upd (upd H1 x (exo x (He.ga X.K C) none)) dx (exd dx [(("value" : Str), v)])) x (exo x (He.ga X.K C) (some dx))) x) dx (.xd [(("value" : Str), v)]) = upd H1 dx (.xd [(("value" : Str), v)]) := by
      funext b
      by_cases hb : b = dx
      · subst hb; rw [upd_same, upd_same]
      · rw [upd_ne hb, upd_ne hb]
        by_cases hb2 : b = x
        · subst hb2; rw [del_same]; exact hx.symm
        · rw [del_ne hb2, upd_ne hb2, upd_ne hb, upd_ne hb2]
    rw [eH]
    have g2 : Go H1 α1 μ1.length (upd H1 dx (.xd [(("value" : Str), v)])) α1 μ1.length := Go.new_obj hdx1 (h1.rel.nohid hdx1)
    exact h1.post v dx σ _ α1 g2 (h1.rel.new_obj hdx1) (h1.en.go g2) (W.ge g2.ge h1.sd) upd_same (Rp.go g2 r1)
end
/-! ### try: body / except C as n: suite -/
/-- in the suite: the error stands in slot i; its dict says what it holds -/
def wSu (W : WS) (K : PySem.W.Frag) (i : Nat) (a dd : Addr) (x : D) : WS where
  w := fun _ _ _ _ => False
  S := fun σ H α N => W.S σ H α N ∧ σ[i]? = some (some (.ref a)) ∧ ∃ v, H dd = some (.xd [(("value" : Str), v)]) ∧ ¬ Lv α dd ∧ Rp K H α N x v
  held := i :: W.held
  ge := fun {σ H H' α α' N N'} g ⟨h1, h2, v, h3, h4, h5⟩ => ⟨W.ge g h1, h2, v, (g.keep _ _ h3 h4).1, (g.keep _ _ h3 h4).2, Rp.ge g h5⟩
  set := fun {σ H α N j o} hj ⟨h1, h2, h3⟩ => ⟨W.set (fun z => hj (List.mem_cons_of_mem _ z)) h1, by rw [List.getElem?_set_ne (fun z => hj (by rw [z]; exact List.mem_cons_self))]; exact h2, h3⟩
def wTry (W : WS) (Wx : WX) : WS := { W with w := Wx }
def unFl (i : Nat) : Fl → Fl
  | .nx e => .nx (e.set i none)
  | .bk e => .bk (e.set i none)
  | .ct e => .ct (e.set i none)
  | .rt d => .rt d
def unset (i : Nat) : Res Fl → Res Fl
  | .ok f μ => .ok (unFl i f) μ
  | .exc _ _ _ _ => .stuck
  | .stuck => .stuck
/-- known: the classes whose objects may come; isS: those that the clause takes -/
def mTry (known isS : Str → Bool) (i : Nat) (ms : Str → D → MS) (mb : MS) : MS := fun e μ => match mb e μ with
  | .exc C x e1 μ1 => if known C = true ∧ i < e1.length then (if isS C = true then unset i (ms C x (e1.set i none) μ1) else .exc C x e1 μ1) else .stuck
  | r => r
theorem Rel.nlv_xd {K : PySem.W.Frag} {μ : Mem} {α : TR} {H : Hp} {a : Addr} {fs : List (Str × V)} (R : Rel K μ α H) (h : H a = some (.xd fs)) : ¬ Lv α a := fun e => by
  rcases e with ⟨n, e⟩ | e
  · have hl := R.dom n a e
    have z := R.cell n μ[n] (List.getElem?_eq_getElem hl)
    cases q : μ[n] with
    | dead => rw [q] at z; rw [show α.m n = none from z] at e; cases e
    | lst ds => rw [q] at z; obtain ⟨_, b, xs, h1, h2, _⟩ := z; rw [h1] at e; cases e; rw [h] at h2; cases h2
    | dct ds => rw [q] at z; obtain ⟨b, xs, h1, h2, _⟩ := z; rw [h1] at e; cases e; rw [h] at h2; cases h2
    | ins C ds => rw [q] at z; obtain ⟨b, dx, xs, h1, h2, _⟩ := z; rw [h1] at e; cases e; rw [h] at h2; cases h2
  · obtain ⟨xs, h2⟩ := R.hl a e
    rw [h] at h2; cases h2
theorem EnR.hide {K : PySem.W.Frag} {H : Hp} {α : TR} {N : Nat} {e : En} {σ : L2.St} (h : EnR K H α N e σ) (i : Nat) (o : Option V) : EnR K H α N (e.set i none) (σ.set i o) := by
  refine ⟨by simp [h.1], fun j c q => ?_⟩
  by_cases hj : i = j
  · subst hj
    by_cases hl : i < e.length
    · rw [List.getElem?_set_self hl] at q
      cases q
    · rw [List.getElem?_eq_none (by simpa using Nat.le_of_not_lt hl)] at q; cases q
  · rw [List.getElem?_set_ne hj] at q ⊢
    exact h.2 j c q
section
variable {X : Cx} {W : WS} {C n : Str} {i : Nat} {body suite : List Stmt} {b₀ : Stmt} {np pos pos' : Pos} {mb : MS} {ms : Str → D → MS} {known isS : Str → Bool}
theorem d_try (hk : ∀ C', known C' = true → PySem.W.exmOne X.K (.ref (He.ga X.K C')) (.ref (He.ga X.K C)) = some (isS C')) (hh : i ∉ W.held)
    (hs : X.stack = X.env :: X.outer) (hf : X.env.frame = some X.env.locals) (hN : X.N.Nodup) (hi : X.N[i]? = some n) (hln : X.env.kindOf n = some .local) (hc : Names X C (.ref (He.ga X.K C))) (tk : Takes X W.w)
    (hb : ∀ (Wx : WX) (pn : List (Addr × Obj)) (xe : Value → Shared → Prop), Takes (X.tr pn xe) Wx → PassesOwn (model X.prog X.w) X.A X.env xe → PSs (X.tr pn xe) body (tMS X.K (wTry W Wx) mb))
    (hsu : ∀ (a dd : Addr) (oe : Obj) (C' : Str) (x : D) (pn : List (Addr × Obj)), known C' = true → Zc (.ref (He.ga X.K C')) (some dd) oe → (∃ vs, oe.data = .fields vs) → PSs (X.suite a ((a, oe) :: pn)) (b₀ :: suite) (tMS X.K (wSu W X.K i a dd x) (ms C' x))) :
    PS X (.Try body [.ExceptHandler (some (.Name C np)) (some n) (b₀ :: suite) pos'] [] [] pos) (tMS X.K W (mTry known isS i ms mb)) := by
  refine (ps_try_as (tb := fun Wx => tMS X.K (wTry W Wx) mb) (ts := fun a cls d D σ H => ∃ dd C' x, cls = .ref (He.ga X.K C') ∧ d = some dd ∧ known C' = true ∧ tMS X.K (wSu W X.K i a dd x) (ms C' x) D σ H) hs hf hN hi hln hc tk hb fun a oe cls d pn hz hfl => ⟨fun pins s σ H D I q => ?_⟩).imp fun D σ H h => ?_
  · obtain ⟨dd, C', x, rfl, rfl, hk', q⟩ := q
    exact (hsu a dd oe C' x pn hk' hz hfl).run pins s σ H D I q
  · obtain ⟨e, μ, α, h⟩ := AtS.of h
    refine ⟨e, μ, α, h.en, h.rel, h.sd, ?_⟩
    have p := h.post
    unfold mTry at p
    cases q : mb e μ with
    | stuck => rw [q] at p; exact p
    | ok f μ1 => rw [q] at p; cases f <;> exact p
    | exc C' x e1 μ1 =>
      rw [q] at p
      intro v dd σ' H' α' g R en sd hd rx
      dsimp only at p
      by_cases hk2 : known C' = true ∧ i < e1.length
      · rw [if_pos hk2] at p
        obtain ⟨hk', hil⟩ := hk2
        refine ⟨isS C', hk C' hk', fun hb' a ha => ?_, fun hb' => ?_⟩
        · rw [if_pos hb'] at p
          refine ⟨dd, C', x, rfl, rfl, hk', e1.set i none, μ1, α', en.hide i _, R, ⟨W.set hh sd, ?_, v, hd, ?_, rx⟩, ?_⟩
          · rw [List.getElem?_set_self (by rw [← en.1]; exact hil)]
          · exact R.nlv_xd hd
          · have p2 : PostS X.K W D H' α' μ1.length (unset i (ms C' x (e1.set i none) μ1)) := p.go g
            cases q2 : ms C' x (e1.set i none) μ1 with
            | stuck => rw [q2] at p2; exact p2
            | exc C2 x2 e2 μ2 => rw [q2] at p2; exact p2.elim
            | ok f μ2 =>
              rw [q2] at p2
              cases f with
              | rt d => exact p2
              | nx e2 => exact fun σ2 H2 α2 g2 R2 en2 sd2 => p2 _ H2 α2 g2 R2 (en2.unset i) (W.set hh sd2.1)
              | bk e2 => exact fun σ2 H2 α2 g2 R2 en2 sd2 => p2 _ H2 α2 g2 R2 (en2.unset i) (W.set hh sd2.1)
              | ct e2 => exact fun σ2 H2 α2 g2 R2 en2 sd2 => p2 _ H2 α2 g2 R2 (en2.unset i) (W.set hh sd2.1)
        · rw [if_neg (by rw [hb']; exact Bool.false_ne_true)] at p
          exact p v dd σ' H' α' g R en sd hd rx
      · rw [if_neg hk2] at p; exact p.elim
/-! ### in the suite -/
theorem d_xval {a dd : Addr} {oe : Obj} {C' : Str} {x : D} {pn : List (Addr × Obj)} {fI : Addr} {p p2 : Pos} (T : ExOk X.K C' fI) (hz : Zc (.ref (He.ga X.K C')) (some dd) oe) (hf : ∃ vs, oe.data = .fields vs) (hN : X.N[i]? = some n) (hv : Vis X.env.scope n)
    (hd : (n == ("__debug__" : Str)) = false := by decide) (hcd : (n == ("__classdict__" : Str)) = false := by decide) (hb : attributeBase (.Name n p) "value" X.env (eval (.Name n p) X.env) = eval (.Name n p) X.env := by rfl) :
    PE (X.suite a ((a, oe) :: pn)) (.Attribute (.Name n p) "value" p2) (tM X.K (wSu W X.K i a dd x) (mC x)) :=
  (pe_xf T.xf T.no hz hf (pe_var (X := X.suite a ((a, oe) :: pn)) hN hv hd hcd) hb).imp fun σ H Q h => by
    obtain ⟨e, μ, α, h⟩ := At.of h
    obtain ⟨_, h2, v, h3, h4, h5⟩ := h.sd
    exact ⟨_, h2, rfl, rfl, dd, _, v, rfl, h3, by simp [List.lookup], h.fin h5⟩
theorem call_isX {a dd : Addr} {oe : Obj} {C' : Str} {pn : List (Addr × Obj)} {fI : Addr} (T : ExOk X.K C' fI) (hz : Zc (.ref (He.ga X.K C')) (some dd) oe) (hf : ∃ vs, oe.data = .fields vs) :
    CallR (X.suite a ((a, oe) :: pn)) (.builtin "isinstance") (fun xs H Q => ∃ (fs : List (Str × V)) (D2 : Addr) (b : Bool), H dd = some (.xd fs) ∧ xs = [.ref a, .ref D2] ∧ PySem.W.kitOne X.K (.ref (He.ga X.K C')) (.ref D2) = some b ∧ Q (.bl b) H) := by
  intro pins s σ H xs us Q I r h
  obtain ⟨fs, D2, b, hd, rfl, e, q⟩ := h
  cases r with
  | cons rx rr =>
    cases rr with
    | cons rt rr =>
      cases rr
      cases rx
      cases rt
      obtain ⟨hget, _⟩ := I.pin (a, oe) (List.mem_append.mpr (.inl List.mem_cons_self))
      obtain ⟨vs, hv⟩ := hf
      have hx : ObjOk X.prog X.w H s.heap dd (.xd fs) := I.hok dd _ hd
      obtain ⟨mA, hns, hr⟩ := hx
      obtain ⟨od, ho, hl⟩ := lookIn_ns hns
      have J : PySem.W.InstAt s.heap a oe (He.ga X.K C') (some od) := ⟨hget, hz.1, by unfold PySem.W.notCls; rw [hv] <;> rfl, by rw [hz.2]; exact ho⟩
      exact PySem.W.kia_one (PySem.W.kitx_exc (by obtain ⟨cd, hc, _⟩ := PySem.W.any_some T.xf.hdC; rw [hc]; rfl) T.xf.ga T.xf.gg T.xf.exC T.cl T.sp T.tk T.mr) I.kIn J e (fun z => nomatch z) fun tk => ⟨.bl b, H, I.kept (t' := tk) fun _ _ z => z, rfl, q⟩
theorem d_isx {a dd : Addr} {oe : Obj} {C' D2 : Str} {x : D} {pn : List (Addr × Obj)} {fI : Addr} {p p2 p3 pos : Pos} {b : Bool} (T : ExOk X.K C' fI) (hz : Zc (.ref (He.ga X.K C')) (some dd) oe) (hf : ∃ vs, oe.data = .fields vs) (hN : X.N[i]? = some n) (hv : Vis X.env.scope n)
    (hk : PySem.W.kitOne X.K (.ref (He.ga X.K C')) (.ref (He.ga X.K D2)) = some b) (hgi : Gl X "isinstance") (hmi : X.mg "isinstance" = none) (hg : Gl X D2) (hm : X.mg D2 = some (.ref (He.ga X.K D2)))
    (hd : (n == ("__debug__" : Str)) = false := by decide) (hcd : (n == ("__classdict__" : Str)) = false := by decide) (hd2 : (D2 == ("__debug__" : Str)) = false := by decide)
    (he : starEach (.Name n p :: [.Name D2 p2]) X.env = (false, eval (.Name n p) X.env) :: starEach [.Name D2 p2] X.env := by rfl) (he2 : starEach (.Name D2 p2 :: []) X.env = (false, eval (.Name D2 p2) X.env) :: starEach [] X.env := by rfl)
    (hpl : (backTo pos (starEach [.Name D2 p2] X.env)).any (·.1) = false := by rfl) :
    PE (X.suite a ((a, oe) :: pn)) (.Call (.Name "isinstance" p3) [.Name n p, .Name D2 p2] [] pos) (tM X.K (wSu W X.K i a dd x) (mC (.bl b))) :=
  (pe_callB (X := X.suite a ((a, oe) :: pn)) (call_isX T hz hf) hgi hmi (by decide +kernel) (pa_cons (pe_var hN hv hd hcd) (pa_cons (pe_glob (v := .ref (He.ga X.K D2)) hg hm rfl hd2) pa_nil he2) he) (by decide) (by decide) he hpl).imp fun σ H Q h => by
    obtain ⟨e, μ, α, h⟩ := At.of h
    obtain ⟨_, h2, v, h3, h4, h5⟩ := h.sd
    exact ⟨_, h2, _, _, b, h3, rfl, hk, h.fin rp_bl⟩
end
end MP
end
set_option Elab.async false
set_option linter.all false
set_option maxRecDepth 100000
set_option maxHeartbeats 1000000
noncomputable section
namespace MP
open PySem PySem.Spec PyProof.Rows L2
section
variable {X : Cx} {W : WS} {p pos apos cpos : Pos} {a b c e o : Expr} {ma mb mc mo : ME} {ms : MA} {es : List Expr}
/-! ### text * int -/
open Classical in
def fMulS : F2 := fun x y μ => match x, y with
  | .str z, .int n => if MulOk z n ∧ (Txt.mul z n).length ≤ 16777216 then .ok (.str (Txt.mul z n)) μ else .stuck
  | _, _ => .stuck
theorem op_mulS : OpR X (binaryOp .Mult) (fun x y H Q => ∃ z n, x = .str z ∧ y = .int n ∧ MulOk z n ∧ Q (.str (Txt.mul z n)) H) := by
  intro pins s σ H x y v u Q I rx ry h
  obtain ⟨z, n, rfl, rfl, c, q⟩ := h
  obtain ⟨t, rfl⟩ := rx
  obtain ⟨t', rfl⟩ := ry
  exact SB.mul c fun t2 k => ⟨.str _, H, I.tok _, ⟨_, rfl⟩, q⟩
theorem d_mulS (ha : PE X a (tM X.K W ma)) (hb : PE X b (tM X.K W mb)) : PE X (.BinOp a .Mult b pos) (tM X.K W (mBin fMulS ma mb)) := d_op op_mulS (fun W Q e σ μ α H x y v w rx ry h => by
  unfold fMulS at h
  split at h
  · split at h
    · rename_i z n c
      exact ⟨z, n, rp_str_iff rx, rp_int_iff ry, c.1, h.fin (rp_str (line_of c.2))⟩
    · exact h.post.elim
  · exact h.post.elim) ha hb
/-! ### text.split(text) -/
open Classical in
def gSplit (x : Str) (as : List D) : Option (List D) := match as with
  | [.str b] => if (b.length == 0) = false ∧ x.length + 2 ≤ 16777216 ∧ (Txt.split x b).length ≤ 16777216 ∧ (∀ z ∈ Txt.split x b, z.length ≤ 16777216) then some ((Txt.split x b).map .str) else none
  | _ => none
def fSplit (cel : Bool) : D → List D → Mem → Res D := fun d as μ => match d with
  | .str x => match gSplit x as with
    | some ds => if cel = true then .ok (.ref μ.length) (μ ++ [.lst ds]) else .ok (.lst ds) μ
    | none => .stuck
  | _ => .stuck
theorem does_split {K : PySem.W.Frag} (cel : Bool) : DoesM K "str" isTxt (fSplit cel) (fun x xs H Q => ∃ a b, x = .str a ∧ xs = [.str b] ∧ (b.length == 0) = false ∧ a.length + 2 ≤ sizeLine ∧ rNewStrs (Txt.split a b) H Q) := by
  refine ⟨fun _ _ _ _ _ => ty_txt, fun W Q e σ μ α H d v ds vs rd rs h => ?_⟩
  unfold fSplit at h
  split at h
  · rename_i x
    split at h
    · rename_i es q
      unfold gSplit at q
      split at q
      · rename_i b
        split at q
        · rename_i c
          cases q
          obtain ⟨v1, rfl, r1⟩ := rps1 rs
          refine ⟨x, b, rp_str_iff rd, by rw [rp_str_iff r1], c.1, line_of c.2.1, fun p hp => ?_⟩
          have rr : Rps K H α μ.length ((Txt.split x b).map D.str) ((Txt.split x b).map V.str) := strs_rp fun z hz => line_of (c.2.2.2 z hz)
          cases cel with
          | true => exact At.newc h rr (by rw [List.length_map]; exact line_of c.2.2.1) hp
          | false => exact At.lst h rr (by rw [List.length_map]; exact line_of c.2.2.1) hp
        · cases q
      · cases q
    · exact h.post.elim
  · exact h.post.elim
theorem d_split (cel : Bool) (ho : PE X o (tM X.K W mo)) (ha : PA X (e :: es) (tMA X.K W ms)) (hbase : attributeBase o "split" X.env (eval o X.env) = eval o X.env := by rfl)
    (hfew : ((backTo cpos (starEach (e :: es) X.env)).all (fun x => !x.1) && (backToKw cpos (keywordEach [] X.env)).all (fun x => x.1.isSome) && decide ((e :: es).length + ([] : List Keyword).length + (if ([] : List Keyword).isEmpty then 0 else 1) < 30)) = true := by rfl)
    (hline : (apos.endLine == cpos.line) = true := by rfl) (hs : starEach (e :: es) X.env = (false, eval e X.env) :: starEach es X.env := by rfl) (hplain : (backTo cpos (starEach es X.env)).any (·.1) = false := by rfl) :
    PE X (.Call (.Attribute o "split" apos) (e :: es) [] cpos) (tM X.K W (mBMc isTxt (fSplit cel) mo ms)) := d_bm PySem.F.plainAttrs_str PySem.F.slot_str_split PySem.F.type_str_split mt_split (does_split cel) ho ha hbase hfew hline hs hplain
/-! ### f-strings -/
def mFmt (a : ME) : ME := fun e μ => (a e μ).bind fun d μ1 => match d with
  | .str y => .ok (.str y) μ1
  | _ => .stuck
theorem d_fmt (he : PE X e (tM X.K W ma)) : PE X (.FormattedValue e (-1) none pos) (tM X.K W (mFmt ma)) := (pe_fmt he).imp fun σ H Q h => by
  obtain ⟨e, μ, α, h⟩ := At.of h
  refine h.bind fun d μ1 v H1 α1 g1 r1 h1 => ?_
  split at h1
  · rename_i y
    exact .inl ⟨y, rp_str_iff r1, rp_str_len r1, h1.fin (rp_str (rp_str_len r1))⟩
  · exact h1.post.elim
def mJs : List ME → Str → ME
  | [], acc => fun _ μ => .ok (.str acc) μ
  | m :: ms, acc => fun e μ => (m e μ).bind fun d μ1 => match d with
    | .str y => if (acc ++ y).length ≤ 16777216 then mJs ms (acc ++ y) e μ1 else .stuck
    | _ => .stuck
theorem t_js {K : PySem.W.Frag} {σ : L2.St} {Q : VK} : ∀ {ms : List ME} {acc : Str} {H : Hp}, acc.length ≤ sizeLine → tM K W (mJs ms acc) σ H Q → tJs (ms.map (tM K W)) acc σ H fun out H1 => Q (.str out) H1
  | [], acc, H, hz, h => by
    obtain ⟨e, μ, α, h⟩ := At.of h
    exact h.fin (rp_str hz)
  | m :: ms, acc, H, hz, h => by
    obtain ⟨e, μ, α, h⟩ := At.of h
    refine h.bind (m := m) fun d μ1 v H1 α1 g1 r1 h1 => ?_
    split at h1
    · rename_i y
      split at h1
      · rename_i c
        exact ⟨y, rp_str_iff r1, line_of c, t_js (line_of c) h1.tx⟩
      · exact h1.post.elim
    · exact h1.post.elim
theorem d_js {v1 v2 : Expr} {rest : List Expr} {ms : List ME} (h : PJ X (v1 :: v2 :: rest) (ms.map (tM X.K W))) : PE X (.JoinedStr (v1 :: v2 :: rest) pos) (tM X.K W (mJs ms Str.empty)) := (pe_joined h).imp fun σ H Q h => t_js (by decide) h
/-! ### range(a, b, c) -/
def Rg3 (i j k : Int) : Prop := k ≠ 0 ∧ k.natAbs < 1073741824 ∧ Builtin.Range.small i j k = true ∧ 0 ≤ Builtin.Range.rangeSize i j k
open Classical in
def mRg3 (a b c : ME) : MI := fun e μ => (a e μ).bind fun d μ1 => (b e μ1).bind fun d2 μ2 => (c e μ2).bind fun d3 μ3 => match d, d2, d3 with
  | .int i, .int j, .int k => if Rg3 i j k then .ok (rangeC i k (Builtin.Range.rangeSize i j k).toNat, none) μ3 else .stuck
  | _, _, _ => .stuck
theorem i_range3 {tg : Expr} (hg : Gl X "range") (hm : X.mg "range" = none) (ha : PE X a (tM X.K W ma)) (hb : PE X b (tM X.K W mb)) (hc : PE X c (tM X.K W mc)) (hs : starEach [a, b, c] X.env = (false, eval a X.env) :: starEach [b, c] X.env := by rfl)
    (hs2 : starEach [b, c] X.env = (false, eval b X.env) :: starEach [c] X.env := by rfl) (hs3 : starEach [c] X.env = (false, eval c X.env) :: starEach [] X.env := by rfl) (hpl : (backTo pos (starEach [b, c] X.env)).any (·.1) = false := by rfl) :
    PI X tg (.Call (.Name "range" p) [a, b, c] [] pos) (tMI X.K W (mRg3 ma mb mc)) :=
  (pi_range3 hg hm (pa_cons ha (pa_cons hb (pa_cons hc pa_nil hs3) hs2) hs) hs hpl).imp fun σ H Q h => by
    obtain ⟨e, μ, α, h⟩ := At.of h
    refine h.bind (R := RV X.K) fun d μ1 v H1 α1 g1 r1 h1 => ?_
    refine h1.bind (R := RV X.K) fun d2 μ2 v2 H2 α2 g2 r2 h2 => ?_
    refine h2.bind (R := RV X.K) fun d3 μ3 v3 H3 α3 g3 r3 h3 => ?_
    split at h3
    · rename_i i j k
      split at h3
      · rename_i c
        exact ⟨i, j, k, _, by rw [rp_int_iff r1, rp_int_iff r2, rp_int_iff r3], ⟨c.1, c.2.1, c.2.2.1, (Int.toNat_of_nonneg c.2.2.2).symm⟩, h3.fin y_rangeC⟩
      · exact h3.post.elim
    · exact h3.post.elim
/-! ### xs[a::k] -/
def stD {β : Type} (ds : List β) (lo st : Option Int) : List β := (sliceRange (sliceBounds lo none st ds.length).1 (sliceBounds lo none st ds.length).2.1 (sliceBounds lo none st ds.length).2.2).filterMap (ds[·]?)
theorem rps_pick {K : PySem.W.Frag} {H : Hp} {α : TR} {N : Nat} {ds : List D} {vs : List V} (r : Rps K H α N ds vs) : ∀ is : List Nat, Rps K H α N (is.filterMap (ds[·]?)) (is.filterMap (vs[·]?))
  | [] => Rps.nil
  | i :: is => by
    have ih := rps_pick r is
    cases q : ds[i]? with
    | none =>
      have q2 : vs[i]? = none := by
        cases q3 : vs[i]? with
        | none => rfl
        | some v => obtain ⟨d, h, _⟩ := r.get' q3; rw [q] at h; cases h
      rw [List.filterMap_cons_none q, List.filterMap_cons_none q2]
      exact ih
    | some d =>
      obtain ⟨v, h1, h2⟩ := r.get q
      rw [List.filterMap_cons_some q, List.filterMap_cons_some h1]
      exact Rps.cons h2 ih
theorem vals_pick {vs : List V} {us : List Value} (r : Vals vs us) : ∀ is : List Nat, Vals (is.filterMap (vs[·]?)) (is.filterMap (us[·]?))
  | [] => .nil
  | i :: is => by
    have ih := vals_pick r is
    have hl := r.length
    cases q : vs[i]? with
    | none =>
      have q2 : us[i]? = none := by
        rw [List.getElem?_eq_none_iff] at q ⊢
        omega
      rw [List.filterMap_cons_none q, List.filterMap_cons_none q2]
      exact ih
    | some d =>
      obtain ⟨v, h1, h2⟩ := r.get q
      rw [List.filterMap_cons_some q, List.filterMap_cons_some h1]
      exact .cons h2 ih
def mSt (a : ME) (lo st : Option Int) : ME := fun e μ => (a e μ).bind fun d μ1 => match viewL μ1 d with
  | some ds => if (stD ds lo st).length ≤ 16777216 then .ok (.lst (stD ds lo st)) μ1 else .stuck
  | none => .stuck
def tStL (K : PySem.W.Frag) (te : TE) (lo st : Option Int) : TE := fun σ H Q => te σ H fun x H1 => ∃ a xs, x = .ref a ∧ SqL K H1 a xs ∧ (stD xs lo st).length ≤ sizeLine ∧ ∀ p, H1 p = none → Q (.ref p) (upd H1 p (.lst (stD xs lo st)))
theorem pe_stL {el : Option Expr} {lo : Option Int} {k : Int} {j : Nat} {te : TE} {p1 p3 : Pos} (hk : k ≠ 0) (he : PE X e te) (hlo : PO X el (fun σ H Q => Q lo H)) : PE X (.Subscript e (.Slice el none (some (.Constant (.int k) j p1)) p3) pos) (tStL X.K te lo (some k)) := by
  refine ⟨fun pins s σ H Q I h => ?_⟩
  refine Subscript_ (thn (he.run pins s σ H _ I h) fun v s1 ⟨x, H1, I1, r1, q1⟩ => ?_)
  obtain ⟨a, xs, ex, hx, hl, q⟩ := q1
  subst ex
  cases r1
  have hst : PO X (some (.Constant (.int k) j p1)) (tPart (tC (.int k))) := po_some pe_int
  refine wpAny_Slice (thn (hlo.run pins s1 σ H1 (fun o H2 => o = lo ∧ H2 = H1) I1 ⟨rfl, rfl⟩) fun vl s2 ⟨l, H2, I2, pl, el, e2⟩ => ?_)
  subst el e2
  refine thn (po_none.run pins s2 σ H2 (fun o H3 => o = none ∧ H3 = H2) I2 ⟨rfl, rfl⟩) fun vu s3 ⟨u, H3, I3, pu, eu, e3⟩ => ?_
  subst eu e3
  refine thn (hst.run pins s3 σ H3 (fun o H4 => o = some k ∧ H4 = H3) I3 ⟨k, rfl, rfl, rfl⟩) fun vs s4 ⟨o, H4, I4, ps, eo, e4⟩ => ?_
  subst eo e4
  have I5 : Inv X pins σ H4 { s4 with heap := s4.heap.push { cls := .type "slice", data := .fields #[vl, vu, vs] } } := I4.kept (t' := s4.toks) fun b ob q => Heap.get?_push_of_some _ q
  obtain ⟨its, r, ht, hz⟩ := I5.list hx
  have hlen := r.length
  show wpAny (model X.prog X.w) X.A (subscriptTail e _ (.ref a) (.ref s4.heap.objs.size)) (EP X pins σ Q) X.xe { s4 with heap := s4.heap.push { cls := .type "slice", data := .fields #[vl, vu, vs] } }
  refine tail_any (ops := [.ref a, .ref s4.heap.objs.size]) ht.isList.typeIs (PySem.slot_list_getitem.lookup) ?_ (by with_unfolding_all rfl)
  refine wpAny_getItem_list_slice ht.isList (Heap.IsSliceOf.new _ vl vu vs) pl pu ps (fun z => hk (by cases z; rfl)) ?_ (by rw [List.size_toArray]; omega)
  have ep : slicePick its.toArray l none (some k) = (stD its l (some k)).toArray := by
    unfold slicePick stD
    rw [List.size_toArray]
    simp
  rw [ep]
  refine ⟨.ref _, _, I5.laid (t' := s4.toks) (o := .lst (stD xs l (some k))) (fun b ob q => Heap.get?_push_of_some _ q) (Nat.le_refl _) ?_, rfl, q _ (I5.hok.fresh (Nat.le_refl _))⟩
  exact ⟨hl, _, 0, by unfold stD; rw [hlen]; exact vals_pick r _, Heap.get?_push_size _ rfl⟩
theorem po_int {X : Cx} {i : Int} {j : Nat} {p : Pos} : PO X (some (.Constant (.int i) j p)) (fun σ H Q => Q (some i) H) := ⟨fun pins s σ H Q I h => (po_some pe_int).run pins s σ H Q I ⟨i, rfl, h⟩⟩
theorem po_no {X : Cx} : PO X none (fun σ H Q => Q none H) := ⟨fun pins s σ H Q I h => po_none.run pins s σ H Q I h⟩
theorem d_st {el : Option Expr} {lo : Option Int} {k : Int} {j : Nat} {p1 p3 : Pos} (hk : k ≠ 0) (he : PE X e (tM X.K W ma)) (hlo : PO X el (fun σ H Q => Q lo H)) : PE X (.Subscript e (.Slice el none (some (.Constant (.int k) j p1)) p3) pos) (tM X.K W (mSt ma lo (some k))) :=
  (pe_stL hk he hlo).imp fun σ H Q h => by
    obtain ⟨e, μ, α, h⟩ := At.of h
    refine h.bind fun d μ1 v H1 α1 g1 r1 h1 => ?_
    split at h1
    · rename_i ds hv
      split at h1
      · rename_i c
        obtain ⟨a, xs, rfl, hs, r2, hz⟩ := viewL_at h1.rel r1 hv
        have rr : Rps X.K H1 α1 μ1.length (stD ds lo (some k)) (stD xs lo (some k)) := by
          unfold stD
          rw [r2.length]
          exact rps_pick r2 _
        exact ⟨a, xs, rfl, .of hs, by rw [rr.length]; exact line_of c, fun p hp => h1.lst rr (line_of c) hp⟩
      · exact h1.post.elim
    · exact h1.post.elim
end
end MP
end
set_option Elab.async false
set_option linter.all false
set_option maxRecDepth 100000
set_option maxHeartbeats 1000000
noncomputable section
namespace MP
open PySem PySem.Spec PyProof.Rows L2
/-! ### x(k = e): keywords alone, in the parameters' order -/
structure FncK (P : Program) (w : World) (K : PySem.W.Frag) (mg : Str → Option Value) (base : Heap) (x : Str) (k : Nat) (ps : List Str) (F : FN) : Prop where
  ex : ∃ fd, FnOk P w K mg base (L2.CX P w) k (He.ga K x) fd ps (spM K ps.length F) ∧ (∀ (s : Shared) (ws : List Value), ws.length = ps.length → BindsTo s fd ⟨[], ps.zip ws⟩ (ps.zip ws) ∧ BindsTo s fd ⟨ws, []⟩ (ps.zip ws)) ∧ ∃ oc od osl, K.lookup (He.ga K x) = some ⟨oc, od, .func fd, osl⟩
  g : mg x = some (.ref (He.ga K x))
  kp : PySem.W.keepIn K (.ref (He.ga K x)) = true
section
variable {P : Program} {w : World} {K : PySem.W.Frag} {mg : Str → Option Value} {base : Heap}
theorem FncK.seal {x : Str} {k : Nat} {ps : List Str} {F : FN} (h : FncK P w K mg base x k ps F) : FncK P w K mg base x k ps (sealF F) := by
  obtain ⟨⟨fd, h1, h2, h3⟩, g, kp⟩ := h
  exact ⟨⟨fd, FnOk.seal h1, h2, h3⟩, g, kp⟩
theorem fnck_mk {x qual : Str} {st : Stmt} {N ps : List Str} {k : Nat} {m : MS} (g : mg x = some (.ref (He.ga K x))) (D : ∃ fd, FunD K x qual (defArgs st) (defBody st) (defScope st) [] [] (He.ga K x) fd) (S : FnScope N ps (defScope st))
    (hb : ∀ (kV doc pm : Value) (an : Option Addr) (cdv ct : Value) (us : List Value), us.length = ps.length → bindArgs (PySem.W.fnOf x qual (defArgs st) (defBody st) (defScope st) .none kV doc pm an cdv ct) ⟨[], ps.zip us⟩ = pure (ps.zip us))
    (hb2 : ∀ (kV doc pm : Value) (an : Option Addr) (cdv ct : Value) (us : List Value), us.length = ps.length → bindArgs (PySem.W.fnOf x qual (defArgs st) (defBody st) (defScope st) .none kV doc pm an cdv ct) ⟨us, []⟩ = pure (ps.zip us))
    (hbody : ∀ (cdv : Value) (A : Around) (outer : List Env) (s : Shared) (H : Hp) (E : XK), Room k (A.deeper (envOfC qual (defScope st) s.heap.objs.size (He.ga K x) cdv)) → Takes (cxOf (L2.CX P w) P w K mg base N qual (defScope st) (He.ga K x) cdv A outer s H E) (WF E).w →
      PSs (cxOf (L2.CX P w) P w K mg base N qual (defScope st) (He.ga K x) cdv A outer s H E) (defBody st) (tMS K (WF E) m)) : FncK P w K mg base x (k + 1) ps (fnM N.length m) := by
  obtain ⟨fd, F⟩ := D
  refine ⟨⟨fd, ok_fn F S hbody, fun s ws hl => ?_, (let ⟨oc, od, _, _, _, _, _, _, _, osl, _, lk, _⟩ := F.ex; ⟨oc, od, osl, lk⟩)⟩, g, F.kp⟩
  obtain ⟨oc, od, dV, kV, doc, pm, an, cdv, ct, osl, e, lk, hcd, hd, hk⟩ := F.ex
  rcases hd with ⟨_, e2⟩ | ⟨h0, _⟩
  · subst e2
    rw [e]
    exact ⟨.of_eq (hb _ _ _ _ _ _ ws hl), .of_eq (hb2 _ _ _ _ _ _ ws hl)⟩
  · exact absurd rfl h0
end
section
variable {X : Cx} {W : WS} {pos p : Pos} {es : List Expr} {kws : List Keyword} {ms : MA} {x : Str} {k : Nat} {ps : List Str} {F : FN}
/-- the values of the keywords -/
theorem _root_.L2.PK.imp {X : Cx} {e : List Keyword} {t t' : TA} (h : PK X e t) (i : ∀ σ H Q, t' σ H Q → t σ H Q) : PK X e t' := ⟨fun pos pins s σ H Q I q => h.run pos pins s σ H Q I (i σ H Q q)⟩
theorem k_nil : PK X [] (tMA X.K W mNil) := pk_nil.imp fun σ H Q h => by
  obtain ⟨e, μ, α, h⟩ := At.of h
  exact h.fin Rps.nil
theorem k_cons {e : Expr} {nm : Option Str} {kpos : Pos} {m : ME} (he : PE X e (tM X.K W m)) (hr : PK X kws (tMA X.K W ms)) : PK X (⟨nm, e, kpos⟩ :: kws) (tMA X.K W (mCons m ms)) := (pk_cons he hr).imp fun σ H Q h => by
  obtain ⟨e, μ, α, h⟩ := At.of h
  refine h.bind (R := RV X.K) fun d μ1 v H1 α1 g1 r1 h1 => ?_
  refine h1.bind (R := RVs X.K) fun ds μ2 vs H2 α2 g2 r2 h2 => ?_
  exact h2.fin (Rps.cons (Rp.go g2 r1) r2)
theorem c_callK (G : FncK X.prog X.w X.K X.mg X.base x k ps F) (hr : Room k X.A) (tk : Takes X W.w) (hkw : PK X kws (tMA X.K W ms)) (hg : Gl X x := by rfl) (hdb : (x == ("__debug__" : Str)) = false := by decide)
    (hall : (backToKw pos (keywordEach kws X.env)).all (·.1.isSome) = true := by rfl) (hks : (backToKw pos (keywordEach kws X.env)).filterMap (·.1) = ps := by rfl)
    (hpl : ((backTo pos (starEach [] X.env)).any (·.1) || (backToKw pos (keywordEach kws X.env)).any (·.1.isNone)) = false := by rfl) {n : Nat} (hn : ps.length = n := by rfl) :
    PE X (.Call (.Name x p) [] kws pos) (tM X.K W (mCall n F ms)) := by
  subst hn
  obtain ⟨⟨fd, h1, h2, _⟩, g, kp⟩ := G
  refine ⟨fun pins s σ H Q I h => ?_⟩
  refine wpAny_Call_Name_kw (ld_glob I hg g ?_ hdb)
  have h' : tMA X.K W ms σ H fun vs H1 => spM X.K ps.length F vs H1 Q (WE W.w σ) := by
    obtain ⟨e, μ, α, h⟩ := At.of h
    exact h.bind fun ds μ1 vs H1 α1 g1 r1 h1 => h1.sp r1
  refine PySem.W.callWith_KW0 (h₀ := X.base) I.ok.mod.kin kp hall (thn (hkw.run pos pins s σ H _ I h') fun ws s2 ⟨zs, H2, I2, rz, q2⟩ => ⟨I2.kIn, ?_⟩) hpl
  rw [hks]
  have hl : ws.length = ps.length := by rw [← rz.length]; exact h1.len _ _ _ _ q2
  show wpAny _ _ (call (.ref (He.ga X.K x)) ([] ++ []) (ps.zip ws)) _ _ _
  refine wpAny_call (codeAny_mono (h1.run X.A X.stack s2 H2 ⟨[], ps.zip ws⟩ ws zs Q (WE W.w σ) hr I2.env0 (h2 s2 ws hl).1 rz q2) fun r s' hq => ?_)
  cases r with
  | error e => exact passAt tk σ pins H2 s2 e s' I2 hq
  | ok fl =>
    cases fl with
    | ret u => exact I2.after hq
    | next => exact False.elim hq
    | brk => exact False.elim hq
    | cont => exact False.elim hq
theorem FncK.same {P : Program} {w : World} {K : PySem.W.Frag} {mg : Str → Option Value} {base base' : Heap} {x : Str} {k : Nat} {ps : List Str} {F : FN} (G : FncK P w K mg base x k ps F) (G' : FncK P w K mg base' x k ps F) {fd : FuncData} {oc : Value} {od : Option Addr} {osl : Array (Option Value)} (h : K.lookup (He.ga K x) = some ⟨oc, od, .func fd, osl⟩) : FnOk P w K mg base' (L2.CX P w) k (He.ga K x) fd ps (spM K ps.length F) := by
  obtain ⟨fd', h1, _, oc', od', osl', h2⟩ := G'.ex
  rw [h] at h2
  cases h2
  exact h1
end
end MP
end
set_option Elab.async false
set_option linter.all false
set_option maxRecDepth 100000
set_option maxHeartbeats 1000000
noncomputable section
namespace MP
open PySem PySem.Spec PyProof.Rows L2
/-! ### text.replace of two written texts: a token must be out -/
theorem pet_imp {X : Cx} {e : Expr} {t t' : TE} (h : PET X e t) (i : ∀ σ H Q, t' σ H Q → t σ H Q) : PET X e t' := fun pins s σ H Q k I q => h pins s σ H Q k I (i σ H Q q)
theorem pat_imp {X : Cx} {e : List Expr} {t t' : TA} (h : PAT X e t) (i : ∀ σ H Q, t' σ H Q → t σ H Q) : PAT X e t' := fun pos pins s σ H Q k I q => h pos pins s σ H Q k I (i σ H Q q)
theorem psst_imp {X : Cx} {e : List Stmt} {t t' : TS} (h : PSsT X e t) (i : ∀ D σ H, t' D σ H → t D σ H) : PSsT X e t' := fun pins s σ H D k I q => h pins s σ H D k I (i D σ H q)
theorem pst_imp {X : Cx} {e : Stmt} {t t' : TS} (h : PST X e t) (i : ∀ D σ H, t' D σ H → t D σ H) : PST X e t' := fun pins s σ H D k I q => h pins s σ H D k I (i D σ H q)
def mRepl (y z : Str) (o : ME) : ME := fun e μ => (o e μ).bind fun d μ1 => match d with
  | .str x => if x.length + (x.length + 1) * z.length ≤ 16777216 then .ok (.str (Txt.replace x y z)) μ1 else .stuck
  | _ => .stuck
section
variable {X : Cx} {W : WS} {pos p apos c0 c1 : Pos} {o e a b : Expr} {mo ma mb : ME} {ms : MA} {es : List Expr} {y z : Str} {j k : Nat} {st : Stmt} {rest : List Stmt} {m m2 : MS}
theorem r_repl (ho : PE X o (tM X.K W mo)) (hyz : (y == z) = false := by decide)
    (hst : starEach [.Constant (.str y) j c0, .Constant (.str z) k c1] X.env = [(false, eval (.Constant (.str y) j c0) X.env), (false, eval (.Constant (.str z) k c1) X.env)] := by rfl)
    (hbase : attributeBase o "replace" X.env (eval o X.env) = eval o X.env := by rfl) (hline : (apos.endLine == pos.line) = true := by rfl) :
    PET X (.Call (.Attribute o "replace" apos) [.Constant (.str y) j c0, .Constant (.str z) k c1] [] pos) (tM X.K W (mRepl y z mo)) :=
  pet_imp (CwR.pet_replC ho hyz hst hbase hline) fun σ H Q h => by
    obtain ⟨e, μ, α, h⟩ := At.of h
    refine h.bind fun d μ1 v H1 α1 g1 r1 h1 => ?_
    split at h1
    · rename_i x
      split at h1
      · rename_i c
        exact ⟨x, rp_str_iff r1, c, h1.fin (rp_str (line_of (Nat.le_trans (TK.replace_len x y z) c)))⟩
      · exact h1.post.elim
    · exact h1.post.elim
theorem r_of (h : PE X e (tM X.K W ma)) : PET X e (tM X.K W ma) := CwR.PET.of h
theorem ra_nil : PAT X [] (tMA X.K W mNil) := pat_imp pat_nil fun σ H Q h => by
  obtain ⟨e, μ, α, h⟩ := At.of h
  exact h.fin Rps.nil
theorem ra_cons (ha : PET X a (tM X.K W ma)) (hr : PAT X es (tMA X.K W ms)) (hs : starEach (a :: es) X.env = (false, eval a X.env) :: starEach es X.env := by rfl) : PAT X (a :: es) (tMA X.K W (mCons ma ms)) :=
  pat_imp (pat_cons ha hr hs) fun σ H Q h => by
    obtain ⟨e, μ, α, h⟩ := At.of h
    refine h.bind fun x μ1 v H1 α1 g1 r1 h1 => ?_
    refine h1.bind fun y μ2 w H2 α2 g2 r2 h2 => ?_
    exact h2.fin (Rps.cons (Rp.go g2 r1) r2)
theorem r_lst (h : PAT X es (tMA X.K W ms)) : PET X (.List es pos) (tM X.K W (mLst ms)) := pet_imp (pet_lst h) fun σ H Q h => by
  obtain ⟨e, μ, α, h⟩ := At.of h
  refine h.bind fun x μ1 v H1 α1 g1 r1 h1 => ?_
  by_cases c : x.length ≤ 16777216
  · rw [if_pos c] at h1
    have r1 : Rps X.K H1 α1 μ1.length x v := r1
    exact ⟨by rw [r1.length]; exact line_of c, fun p hp => h1.lst r1 (line_of c) hp⟩
  · rw [if_neg c] at h1; exact h1.post.elim
theorem r_add (ha : PET X a (tM X.K W ma)) (hb : PET X b (tM X.K W mb)) : PET X (.BinOp a .Add b pos) (tM X.K W (mBin fAdd ma mb)) :=
  pet_imp (CwR.pet_op (op_add.or (op_add_str.or (op_catA.or op_cat))) ha hb) fun σ H Q h => tM_bin does_add h
theorem rs_of (h : PS X st (tMS X.K W m)) : PST X st (tMS X.K W m) := PST.of h
theorem rs_set {i : Nat} {x : Str} {pos' : Pos} (hh : i ∉ W.held) (hN : X.N.Nodup) (hi : X.N[i]? = some x) (hx : Loc X.env.scope x) (he : PET X e (tM X.K W ma)) (hs : swapsWith e (some (.Name x pos')) pos.line X.env = pure false := by rfl)
    (hf : X.fn x = true ∨ X.env.scope.names.lookup x = some .local := by first | exact .inl rfl | exact .inr rfl | assumption) : PST X (.Assign [.Name x pos'] e pos) (tMS X.K W (mAsg ma (oName i))) := by
  refine pst_imp (t := tAsg (tM X.K W ma) (gName i)) (fun pins s σ H D k I h => ?_) fun D σ H h => ?_
  · refine wpAny_Assign_Name (thn (he pins s σ H _ k I h) fun v s1 ⟨y, H1, I1, r1, q1⟩ => ?_) hs
    exact store_ok I1 hN hi hx r1 (fun s2 I2 => ⟨_, H1, I2, q1⟩) hf
  · obtain ⟨e, μ, α, h⟩ := AtS.of h
    refine h.bind (R := RV X.K) fun d μ1 v H1 α1 g1 r h1 => ?_
    exact h1.nx (h1.en.set r i) (W.set hh h1.sd)
theorem rs_cons (h1 : PST X st (tMS X.K W m)) (h2 : PSsT X rest (tMS X.K W m2)) : PSsT X (st :: rest) (tMS X.K W (mSeq m m2)) := psst_imp (psst_cons h1 h2) fun D σ H h => t_seq h
theorem rs_one (h1 : PST X st (tMS X.K W m)) : PSsT X [st] (tMS X.K W m) := psst_imp (CwR.psst_one h1) fun D σ H h => by
  obtain ⟨e, μ, α, h⟩ := AtS.of h
  refine ⟨e, μ, α, h.en, h.rel, h.sd, ?_⟩
  have p := h.post
  cases q : m e μ with
  | ok f μ1 =>
    rw [q] at p
    cases f with
    | nx e1 => exact fun σ' H' α' g rel en sd => p σ' H' α' g rel en sd
    | bk e1 => exact p
    | ct e1 => exact p
    | rt d => exact p
  | exc C x e' μ1 => rw [q] at p; exact p
  | stuck => rw [q] at p; exact p
/-- the first statement: x = ['..', ..]; behind it a token is out -/
theorem rs_tok {i : Nat} {x t : Str} {pos' lpos : Pos} (ht : t.length ≤ 16777216) (hh : i ∉ W.held) (hN : X.N.Nodup) (hi : X.N[i]? = some x) (hx : Loc X.env.scope x) (ha : PA X es (tMA X.K W ms)) (h2 : PSsT X rest (tMS X.K W m2))
    (hs : swapsWith (.List (.Constant (.str t) j c0 :: es) lpos) (some (.Name x pos')) pos.line X.env = pure false := by rfl)
    (hst : starEach (.Constant (.str t) j c0 :: es) X.env = (false, eval (.Constant (.str t) j c0) X.env) :: starEach es X.env := by rfl)
    (hf : X.fn x = true ∨ X.env.scope.names.lookup x = some .local := by first | exact .inl rfl | exact .inr rfl | assumption) :
    PSs X (.Assign [.Name x pos'] (.List (.Constant (.str t) j c0 :: es) lpos) pos :: rest) (tMS X.K W (mSeq (mAsg (mLst (mCons (mC (.str t)) ms)) (oName i)) m2)) := by
  refine ⟨fun pins s σ H D I h => ?_⟩
  have h := t_seq h
  obtain ⟨e, μ, α, h⟩ := AtS.of (show tMS X.K W (mAsg (mLst (mCons (mC (.str t)) ms)) (oName i)) { D with nx := tMS X.K W m2 D } σ H from h)
  have h3 : tMA X.K W ms σ H fun us H1 => us.length + 1 ≤ sizeLine ∧ ∀ p, H1 p = none → tMS X.K W m2 D (σ.set i (some (.ref p))) (upd H1 p (.lst (.str t :: us))) := by
    have eq : mAsg (mLst (mCons (mC (.str t)) ms)) (oName i) e μ = (ms e μ).bind fun ds μ1 => if ds.length + 1 ≤ 16777216 then .ok (.nx (e.set i (some (.lst (.str t :: ds))))) μ1 else .stuck := by
      show (((((ms e μ).bind fun ds μ2 => .ok (MP.D.str t :: ds) μ2)).bind fun ds μ1 => if ds.length ≤ 16777216 then Res.ok (MP.D.lst ds) μ1 else .stuck).bind fun d μ1 => (oName i d e μ1).bind fun e1 μ2 => Res.ok (Fl.nx e1) μ2) = _
      cases ms e μ with
      | ok ds μ1 =>
        simp only [Res.bind_ok, List.length_cons]
        split <;> rfl
      | exc C x e' μ1 => rfl
      | stuck => rfl
    rw [eq] at h
    refine h.bind (R := RVs X.K) fun ds μ1 us H1 α1 g1 r1 h1 => ?_
    have r1 : Rps X.K H1 α1 μ1.length ds us := r1
    by_cases c : ds.length + 1 ≤ 16777216
    · rw [if_pos c] at h1
      refine ⟨by rw [r1.length]; exact line_of c, fun p hp => ?_⟩
      have g2 : Go H1 α1 μ1.length (upd H1 p (.lst (.str t :: us))) α1 μ1.length := Go.new_obj hp (h1.rel.nohid hp)
      have rl : Rp X.K (upd H1 p (.lst (.str t :: us))) α1 μ1.length (.lst (.str t :: ds)) (.ref p) := by
        unfold Rp
        exact ⟨line_of c, p, _, rfl, ⟨upd_same, h1.rel.fresh hp⟩, Rps.cons (rp_str (line_of ht)) (Rps.go g2 r1)⟩
      exact h1.post _ _ α1 g2 (h1.rel.new_obj hp) ((h1.en.go g2).set rl i) (W.set hh (W.ge g2.ge h1.sd))
    · rw [if_neg c] at h1; exact h1.post.elim
  refine wpAny_execs_cons (wpAny_Assign_Name (wpAny_List_spliced ?_) hs)
  rw [hst]
  show wpAny _ _ (spliced ((false, eval (.Constant (.str t) j c0) X.env) :: backTo lpos (starEach es X.env))) _ _ s
  refine Calls.spliced_cons (Calls.Constant_str ?_)
  refine wpAny_mono (PySem.wpAny_toks (ha.run lpos pins { s with toks := s.toks + 1 } σ H _ (I.tok _) h3)) (fun us s1 q => ?_) fun _ _ z => z.2
  obtain ⟨hk, xs, H1, I1, r, z, q⟩ := q
  have hk : s.toks + 1 ≤ s1.toks := hk
  have hf1 : H1 s1.heap.objs.size = none := I1.hok.fresh (Nat.le_refl _)
  have r2 : Vals (V.str t :: xs) (Value.str t s.toks :: us) := .cons ⟨_, rfl⟩ r
  refine ⟨by show us.length + 1 ≤ sizeLine; rw [← r.length]; exact z, ?_⟩
  refine wpAny_mono (PySem.wpAny_toks (store_ok (v := V.ref s1.heap.objs.size) (u := Value.ref s1.heap.objs.size) (Q := fun _ s2 => Inv X pins (σ.set i (some (V.ref s1.heap.objs.size))) (upd H1 s1.heap.objs.size (.lst (.str t :: xs))) s2)
    (I1.laid (t' := s1.toks) (o := .lst (.str t :: xs)) (fun b u e => Heap.get?_push_of_some _ e) (Nat.le_refl _) ⟨z, Value.str t s.toks :: us, 0, r2, Heap.get?_push_size _ rfl⟩) hN hi hx rfl (fun _ I2 => I2) hf)) (fun _ s2 q2 => ?_) fun _ _ z => z.2
  exact h2 pins s2 _ _ D (Nat.le_trans (Nat.le_trans (Nat.le_add_left 1 s.toks) hk) q2.1) q2.2 (q _ hf1)
end
end MP
end
set_option Elab.async false
set_option linter.all false
set_option maxRecDepth 100000
set_option maxHeartbeats 1000000
noncomputable section
namespace ZipL
open PySem PySem.Calls PyProof.Rows
open Builtin
/-- a zip whose last tuple a is still held -/
abbrev IsZipB (h : Heap) (z TI TO a : Addr) (f : Bool) : Prop :=
  h.get? z = some { cls := .type "zip", dict := none, data := .fields #[rawInt a, .bool f, .bool false, .ref TI, .ref TO], slots := #[] }
section
variable {prog : Program} {w : World} {A : Around} {E : Value → Shared → Prop} {s : Shared}
theorem tail {z TI TO i1 i2 l1 l2 a : Addr} {k1 k2 : Nat} {xs ys : Array Value} {x y : Value} {Q : Value → Shared → Prop} (b : Value → Option Fin × Array Value → Sem (ForInStep (Option Fin × Array Value))) (c : Option Fin × Array Value → Sem Fin)
    (hb : ∀ (it : Value) (items : Array Value) (R : ForInStep (Option Fin × Array Value) → Shared → Prop) (s : Shared), wpAny (model prog w) A (SmallTypes.nextOf it) (fun v s' => R (.yield (none, items.push v)) s') E s → wpAny (model prog w) A (b it (none, items)) R E s)
    (hc : c (none, #[x, y]) = (do let v ← newTuple [x, y]; ret v)) (D : ZipApart z TI TO i1 i2 l1 l2)
    (hz : IsZipB s.heap z TI TO a true)
    (h1 : s.heap.IsListIter i1 l1 k1) (h2 : s.heap.IsListIter i2 l2 k2) (hl1 : s.heap.IsList l1 xs) (hl2 : s.heap.IsList l2 ys) (hx : xs[k1]? = some x) (hy : ys[k2]? = some y)
    (hQ : ∀ h', IsZipB h' z TI TO a true → h'.IsListIter i1 l1 (k1 + 1) → h'.IsListIter i2 l2 (k2 + 1) → IsPair h' s.heap.objs.size x y → h'.objs.size = s.heap.objs.size + 1 →
      (∀ c o, c ≠ i1 → c ≠ i2 → s.heap.get? c = some o → h'.get? c = some o) → Q (.ref s.heap.objs.size) { s with heap := h' }) :
    wpAny (model prog w) A (forIn (#[Value.ref i1, Value.ref i2] : Array Value) ((none : Option Fin), (#[] : Array Value)) b >>= c) (fun fin s' => ∃ v, fin = .done (.ret v) ∧ Q v s') E s := by
  rw [← Array.forIn_toList]
  simp only [List.forIn_cons, List.forIn_nil]
  refine wpAny_bind (wpAny_bind (hb _ _ _ _ (wpAny_nextOf_list_item h1 hl1 hx fun h₂ h1₂ hs₂ => ?_)))
  refine wpAny_bind (hb _ _ _ _ (wpAny_nextOf_list_item (h2.extBut hs₂.extBut D.i12.symm) (hl2.extBut hs₂.extBut D.l2i1) hy fun h₃ h2₃ hs₃ => ?_))
  refine wpAny_pure ?_
  show wpAny _ _ (c (none, #[x, y])) _ _ _
  rw [hc]
  refine wpAny_bind (wpAny_newTuple (hsz := by show 2 ≤ sizeLine; decide) (wpAny_pure ⟨_, rfl, ?_⟩))
  have hsz : h₃.objs.size = s.heap.objs.size := by rw [hs₃.1, hs₂.1]
  have k3 : ∀ c o, c ≠ i1 → c ≠ i2 → s.heap.get? c = some o → h₃.get? c = some o := fun c o c1 c2 e => hs₃.extBut _ _ c2 (hs₂.extBut _ _ c1 e)
  have hp : IsPair (h₃.push { cls := .type "tuple", data := .seq #[x, y] }) s.heap.objs.size x y := by rw [← hsz]; exact Heap.get?_push_size _ rfl
  have h1₃ : h₃.IsListIter i1 l1 (k1 + 1) := h1₂.extBut hs₃.extBut D.i12
  show Q (.ref h₃.objs.size) { s with heap := h₃.push { cls := .type "tuple", data := .seq #[x, y] } }
  rw [hsz]
  exact hQ _ (Heap.get?_push_of_some _ (k3 _ _ D.i1z.symm D.i2z.symm hz)) (h1₃.at fun o e => Heap.get?_push_of_some _ e) (h2₃.at fun o e => Heap.get?_push_of_some _ e) hp (by rw [Heap.size_push, hsz]) fun c o c1 c2 e => Heap.get?_push_of_some _ (k3 c o c1 c2 e)
theorem next_busy {z TI TO i1 i2 l1 l2 a : Addr} {f : Bool} {oa : Obj} {k1 k2 : Nat} {xs ys : Array Value} {x y : Value} {Q : Value → Shared → Prop} (D : ZipApart z TI TO i1 i2 l1 l2)
    (hz : IsZipB s.heap z TI TO a f) (ha : s.heap.get? a = some oa) (hTI : IsPair s.heap TI (.ref i1) (.ref i2))
    (h1 : s.heap.IsListIter i1 l1 k1) (h2 : s.heap.IsListIter i2 l2 k2) (hl1 : s.heap.IsList l1 xs) (hl2 : s.heap.IsList l2 ys) (hx : xs[k1]? = some x) (hy : ys[k2]? = some y)
    (hQ : ∀ h', IsZipB h' z TI TO a true → h'.IsListIter i1 l1 (k1 + 1) → h'.IsListIter i2 l2 (k2 + 1) → IsPair h' s.heap.objs.size x y → h'.objs.size = s.heap.objs.size + 1 →
      (∀ c o, c ≠ z → c ≠ i1 → c ≠ i2 → s.heap.get? c = some o → h'.get? c = some o) → Q (.ref s.heap.objs.size) { s with heap := h' }) :
    wpAny (model prog w) A (Builtin.«zip.__next__» ⟨[.ref z], []⟩) (fun fin s' => ∃ v, fin = .done (.ret v) ∧ Q v s') E s := by
  show wpAny _ _ (field (.ref z) 2 >>= _) _ _ _
  refine wpAny_bind (wpAny_field hz rfl (x := .bool false) rfl ?_)
  show wpAny _ _ (field (.ref z) 3 >>= _) _ _ _
  refine wpAny_bind (wpAny_field hz rfl (x := .ref TI) rfl ?_)
  refine wpAny_bind (wpAny_seqItems hTI rfl ?_)
  show wpAny _ _ (Builtin.SmallTypes.ownedTupleIsFree (.ref z) >>= _) _ _ _
  refine wpAny_bind ?_
  unfold Builtin.SmallTypes.ownedTupleIsFree
  refine wpAny_bind (wpAny_field hz rfl (x := rawInt a) rfl ?_)
  show wpAny _ _ (loadIfAlive ((a : Int).toNat) >>= _) _ _ _
  rw [Int.toNat_natCast]
  refine wpAny_bind (W.kdx_alive ha ?_)
  simp only [Option.isNone_some, Bool.false_eq_true, if_false]
  refine wpAny_bind (wpAny_field hz rfl (x := .bool f) rfl ?_)
  cases f with
  | true =>
    rw [if_neg (show ¬ ((Value.bool true != Value.bool true) = true) from Bool.false_ne_true)]
    refine wpAny_pure ?_
    simp only [Bool.false_eq_true, if_false]
    refine tail _ _ (fun it items R s h => wpAny_bind (wpAny_holding ?_)) rfl D hz h1 h2 hl1 hl2 hx hy fun h' a1 a2 a3 a4 a5 a6 => hQ h' a1 a2 a3 a4 a5 fun c o _ c1 c2 e => a6 c o c1 c2 e
    show wpAny _ _ (SmallTypes.nextOf it >>= _) _ _ _
    exact wpAny_bind (wpAny_mono h (fun v s' q => wpAny_pure (wpAny_pure q)) fun _ _ e => e)
  | false =>
    rw [if_pos (show (Value.bool false != Value.bool true) = true from rfl)]
    refine wpAny_bind (wpAny_setField_rec hz (by simp) fun h₁ hz₁ hs₁ => ?_)
    replace hs₁ : Heap.SameBut z s.heap h₁ := hs₁
    replace hz₁ : IsZipB h₁ z TI TO a true := hz₁
    refine wpAny_pure ?_
    simp only [Bool.false_eq_true, if_false]
    have hsz : h₁.objs.size = s.heap.objs.size := hs₁.1
    refine tail (s := { s with heap := h₁ }) _ _ (fun it items R s h => wpAny_bind (wpAny_holding ?_)) rfl D hz₁ (h1.extBut hs₁.extBut D.i1z) (h2.extBut hs₁.extBut D.i2z) (hl1.extBut hs₁.extBut D.l1z) (hl2.extBut hs₁.extBut D.l2z) hx hy fun h' a1 a2 a3 a4 a5 a6 => ?_
    · show wpAny _ _ (SmallTypes.nextOf it >>= _) _ _ _
      exact wpAny_bind (wpAny_mono h (fun v s' q => wpAny_pure (wpAny_pure q)) fun _ _ e => e)
    dsimp only at a4 a5 ⊢
    rw [hsz] at a4 a5 ⊢
    exact hQ h' a1 a2 a3 a4 a5 fun c o c0 c1 c2 e => a6 c o c1 c2 (hs₁.extBut _ _ c0 e)
theorem tail_end {i1 i2 l1 : Addr} {k1 : Nat} {xs : Array Value} {Q : Fin → Shared → Prop} (hh : A.handled = none) (b : Value → Option Fin × Array Value → Sem (ForInStep (Option Fin × Array Value))) (c : Option Fin × Array Value → Sem Fin)
    (hb : ∀ (it : Value) (items : Array Value) (R : ForInStep (Option Fin × Array Value) → Shared → Prop) (s : Shared), wpAny (model prog w) A (SmallTypes.nextOf it) (fun v s' => R (.yield (none, items.push v)) s') E s → wpAny (model prog w) A (b it (none, items)) R E s)
    (h1 : s.heap.IsListIter i1 l1 k1) (hl1 : s.heap.IsList l1 xs) (hx : xs[k1]? = none)
    (hE : ∀ h' e, (∀ c o, c ≠ i1 → s.heap.get? c = some o → h'.get? c = some o) → (∃ o, h'.get? e = some o ∧ o.cls = .type "StopIteration") → E (.ref e) { s with heap := h' }) :
    wpAny (model prog w) A (forIn (#[Value.ref i1, Value.ref i2] : Array Value) ((none : Option Fin), (#[] : Array Value)) b >>= c) Q E s := by
  rw [← Array.forIn_toList]
  simp only [List.forIn_cons, List.forIn_nil]
  refine wpAny_bind (wpAny_bind (hb _ _ _ _ (wpAny_nextOf_list_end hh h1 hl1 hx fun h₂ e hs₂ he => ?_)))
  exact hE h₂ e (fun c o c1 x => hs₂ _ _ c1 x) he
theorem end_busy {z TI TO i1 i2 l1 a : Addr} {f : Bool} {oa : Obj} {k1 : Nat} {xs : Array Value} {Q : Fin → Shared → Prop} (hh : A.handled = none) (hi1 : i1 ≠ z) (hlz : l1 ≠ z)
    (hz : IsZipB s.heap z TI TO a f) (ha : s.heap.get? a = some oa) (hTI : IsPair s.heap TI (.ref i1) (.ref i2))
    (h1 : s.heap.IsListIter i1 l1 k1) (hl1 : s.heap.IsList l1 xs) (hx : xs[k1]? = none)
    (hE : ∀ h' e, (∀ c o, c ≠ z → c ≠ i1 → s.heap.get? c = some o → h'.get? c = some o) → (∃ o, h'.get? e = some o ∧ o.cls = .type "StopIteration") → E (.ref e) { s with heap := h' }) :
    wpAny (model prog w) A (Builtin.«zip.__next__» ⟨[.ref z], []⟩) Q E s := by
  show wpAny _ _ (field (.ref z) 2 >>= _) _ _ _
  refine wpAny_bind (wpAny_field hz rfl (x := .bool false) rfl ?_)
  show wpAny _ _ (field (.ref z) 3 >>= _) _ _ _
  refine wpAny_bind (wpAny_field hz rfl (x := .ref TI) rfl ?_)
  refine wpAny_bind (wpAny_seqItems hTI rfl ?_)
  show wpAny _ _ (Builtin.SmallTypes.ownedTupleIsFree (.ref z) >>= _) _ _ _
  refine wpAny_bind ?_
  unfold Builtin.SmallTypes.ownedTupleIsFree
  refine wpAny_bind (wpAny_field hz rfl (x := rawInt a) rfl ?_)
  show wpAny _ _ (loadIfAlive ((a : Int).toNat) >>= _) _ _ _
  rw [Int.toNat_natCast]
  refine wpAny_bind (W.kdx_alive ha ?_)
  simp only [Option.isNone_some, Bool.false_eq_true, if_false]
  refine wpAny_bind (wpAny_field hz rfl (x := .bool f) rfl ?_)
  cases f with
  | true =>
    rw [if_neg (show ¬ ((Value.bool true != Value.bool true) = true) from Bool.false_ne_true)]
    refine wpAny_pure ?_
    simp only [Bool.false_eq_true, if_false]
    refine tail_end hh _ _ (fun it items R s h => wpAny_bind (wpAny_holding ?_)) h1 hl1 hx fun h' e k he => hE h' e (fun c o _ c1 x => k c o c1 x) he
    show wpAny _ _ (SmallTypes.nextOf it >>= _) _ _ _
    exact wpAny_bind (wpAny_mono h (fun v s' q => wpAny_pure (wpAny_pure q)) fun _ _ e => e)
  | false =>
    rw [if_pos (show (Value.bool false != Value.bool true) = true from rfl)]
    refine wpAny_bind (wpAny_setField_rec hz (by simp) fun h₁ hz₁ hs₁ => ?_)
    replace hs₁ : Heap.SameBut z s.heap h₁ := hs₁
    refine wpAny_pure ?_
    simp only [Bool.false_eq_true, if_false]
    refine tail_end (s := { s with heap := h₁ }) hh _ _ (fun it items R s h => wpAny_bind (wpAny_holding ?_)) (h1.extBut hs₁.extBut hi1) (hl1.extBut hs₁.extBut hlz) hx fun h' e k he => hE h' e (fun c o c0 c1 x => k c o c1 (hs₁.extBut _ _ c0 x)) he
    show wpAny _ _ (SmallTypes.nextOf it >>= _) _ _ _
    exact wpAny_bind (wpAny_mono h (fun v s' q => wpAny_pure (wpAny_pure q)) fun _ _ e => e)
/-- the state at turn i; S: the list that is made -/
structure ZSt (h : Heap) (z TI TO i1 i2 l1 l2 S : Addr) (i : Nat) : Prop where
  own : (IsZip h z TI TO .none ∧ ∃ a b, IsPair h TO a b) ∨ ∃ a f oa, IsZipB h z TI TO a f ∧ h.get? a = some oa ∧ a ≠ S ∧ a ≠ z ∧ a ≠ i1 ∧ a ≠ i2 ∧ a ≠ TO
  ti : IsPair h TI (.ref i1) (.ref i2)
  h1 : h.IsListIter i1 l1 i
  h2 : h.IsListIter i2 l2 i
theorem ZSt.keep {h h' : Heap} {z TI TO i1 i2 l1 l2 S : Addr} {i : Nat} (x : ZSt h z TI TO i1 i2 l1 l2 S i) (hS : S ≠ z ∧ S ≠ TI ∧ S ≠ TO ∧ S ≠ i1 ∧ S ≠ i2) (hk : ∀ b o, b ≠ S → h.get? b = some o → h'.get? b = some o) : ZSt h' z TI TO i1 i2 l1 l2 S i := by
  obtain ⟨s1, s2, s3, s4, s5⟩ := hS
  refine ⟨?_, hk _ _ s2.symm x.ti, x.h1.at fun o e => hk i1 o s4.symm e, x.h2.at fun o e => hk i2 o s5.symm e⟩
  rcases x.own with ⟨p, a, b, q⟩ | ⟨a, f, oa, p, q, r⟩
  · exact .inl ⟨hk _ _ s1.symm p, a, b, hk _ _ s3.symm q⟩
  · exact .inr ⟨a, f, oa, hk _ _ s1.symm p, hk _ _ r.1 q, r⟩
theorem z_item {z TI TO i1 i2 l1 l2 S : Addr} {i : Nat} {xs ys : Array Value} {x y : Value} {Q : Option Value → Shared → Prop} (D : ZipApart z TI TO i1 i2 l1 l2) (st : ZSt s.heap z TI TO i1 i2 l1 l2 S i) (hS : S < s.heap.objs.size)
    (hl1 : s.heap.IsList l1 xs) (hl2 : s.heap.IsList l2 ys) (hx : xs[i]? = some x) (hy : ys[i]? = some y)
    (hQ : ∀ h', ZSt h' z TI TO i1 i2 l1 l2 S (i + 1) → IsPair h' s.heap.objs.size x y → h'.objs.size = s.heap.objs.size + 1 → (∀ c o, c ≠ z → c ≠ TO → c ≠ i1 → c ≠ i2 → s.heap.get? c = some o → h'.get? c = some o) → Q (some (.ref s.heap.objs.size)) { s with heap := h' }) :
    wpAny (model prog w) A (pyNext (.ref z)) Q E s := by
  have hzl : ∀ {f0 : Value}, IsZip s.heap z TI TO f0 → z < s.heap.objs.size := fun h => Heap.lt_size h
  have l1' : i1 < s.heap.objs.size := by obtain ⟨_, e, _⟩ := st.h1; exact Heap.lt_size e
  have l2' : i2 < s.heap.objs.size := by obtain ⟨_, e, _⟩ := st.h2; exact Heap.lt_size e
  rcases st.own with ⟨p, a, b, q⟩ | ⟨a, f, oa, p, q, r1, r2, r3, r4, r5⟩
  · have hTO : TO < s.heap.objs.size := Heap.lt_size q
    refine wpAny_pyNext_zip_item D p st.ti q st.h1 st.h2 hl1 hl2 hx hy fun h' a1 a2 a3 a4 a5 a6 a7 => hQ h' ⟨.inr ⟨_, false, _, a1, a5, Nat.ne_of_gt hS, Nat.ne_of_gt (hzl p), Nat.ne_of_gt l1', Nat.ne_of_gt l2', Nat.ne_of_gt hTO⟩, a7 _ _ D.TIz D.TITO D.TIi1 D.TIi2 st.ti, a3, a4⟩ a5 a6 a7
  · have hT : s.TypeIs (.ref z) "zip" := ⟨_, p, rfl⟩
    unfold pyNext
    exact wpAny_bind (wpAny_attempt (wpAny_callSpecial?_slot (name := Str.ofString "__next__") hT F.slot_zip_next
      (wpAny_call_entry F.slot_zip_next hT F.entry_zip_next
        (next_busy D p q st.ti st.h1 st.h2 hl1 hl2 hx hy fun h' a1 a2 a3 a4 a5 a6 => wpAny_pure (hQ h' ⟨.inr ⟨a, true, oa, a1, a6 _ _ r2 r3 r4 q, r1, r2, r3, r4, r5⟩, a6 _ _ D.TIz D.TIi1 D.TIi2 st.ti, a2, a3⟩ a4 a5 fun c o c1 _ c3 c4 e => a6 c o c1 c3 c4 e)) (F.args_zip_next_1 _))))
theorem z_done {z TI TO i1 i2 l1 l2 S : Addr} {i : Nat} {xs ys : Array Value} {Q : Option Value → Shared → Prop} (hh : A.handled = none) (D : ZipApart z TI TO i1 i2 l1 l2) (st : ZSt s.heap z TI TO i1 i2 l1 l2 S i)
    (hl1 : s.heap.IsList l1 xs) (hl2 : s.heap.IsList l2 ys) (hx : xs[i]? = none)
    (hQ : ∀ h', (∀ c o, c ≠ z → c ≠ TO → c ≠ i1 → c ≠ i2 → s.heap.get? c = some o → h'.get? c = some o) → Q none { s with heap := h' }) : wpAny (model prog w) A (pyNext (.ref z)) Q E s := by
  rcases st.own with ⟨p, a, b, q⟩ | ⟨a, f, oa, p, q, r1, r2, r3, r4, r5⟩
  · exact wpAny_pyNext_zip_end hh D p st.ti q st.h1 st.h2 hl1 hl2 (.inl hx) hQ
  · have hT : s.TypeIs (.ref z) "zip" := ⟨_, p, rfl⟩
    unfold pyNext
    refine wpAny_bind (wpAny_attempt (wpAny_callSpecial?_slot (name := Str.ofString "__next__") hT F.slot_zip_next
      (wpAny_call_entry F.slot_zip_next hT F.entry_zip_next (end_busy hh D.i1z D.l1z p q st.ti st.h1 hl1 hx fun h' e hk he => ?_) (F.args_zip_next_1 _))))
    obtain ⟨o, ho, hc⟩ := he
    refine wpAny_bind (wpAny_isInstance (T := "StopIteration") (b := true) ⟨o, ho, hc⟩ isSubtype_stop ?_)
    exact wpAny_pure (hQ _ fun c o c1 _ c3 _ e => hk c o c1 c3 e)
/-- the tuples that were made -/
structure Mad (xs ys : Array Value) (lo : Addr) (h : Heap) (as : List Addr) : Prop where
  rise : as.Pairwise (· < ·)
  above : ∀ a ∈ as, lo ≤ a
  pairs : ∀ (j : Nat) (a : Addr), as[j]? = some a → ∃ x y, xs[j]? = some x ∧ ys[j]? = some y ∧ IsPair h a x y
theorem Mad.there {xs ys : Array Value} {lo : Addr} {h : Heap} {as : List Addr} (g : Mad xs ys lo h as) {a : Addr} (ha : a ∈ as) : a < h.objs.size := by
  obtain ⟨j, hj⟩ := List.mem_iff_getElem?.mp ha
  obtain ⟨_, _, _, _, e⟩ := g.pairs j a hj
  exact Heap.lt_size e
theorem z_loop {R : Result → Shared → Prop} {z TI TO i1 i2 l1 l2 S lo : Addr} {xs ys : Array Value} (hh : A.handled = none) (D : ZipApart z TI TO i1 i2 l1 l2) (hS : S ≠ z ∧ S ≠ TI ∧ S ≠ TO ∧ S ≠ i1 ∧ S ≠ i2) (hl1S : l1 ≠ S) (hl2S : l2 ≠ S) (hl : xs.size = ys.size) (hn : xs.size ≤ sizeLine)
    (hlo : S < lo ∧ z < lo ∧ TO < lo ∧ i1 < lo ∧ i2 < lo) (res : Value) {h₁ : Heap}
    (hR : ∀ h' tk acc c as, (∀ b o, b ≠ S → b ≠ z → b ≠ TO → b ≠ i1 → b ≠ i2 → h₁.get? b = some o → h'.get? b = some o) → h'.get? S = some { cls := .type "list", dict := none, data := .seq acc c, slots := #[] } → as.length = xs.size → Mad xs ys lo h' as →
      acc.toList = as.map Value.ref → R (.ok (.ret res)) { s with heap := h', toks := tk }) :
    ∀ (k i : Nat) (h : Heap) (tk c : Nat) (acc : Array Value) (as : List Addr), xs.size - i = k → i ≤ xs.size → ZSt h z TI TO i1 i2 l1 l2 S i → h.IsList l1 xs → h.IsList l2 ys → (∀ b o, b ≠ S → b ≠ z → b ≠ TO → b ≠ i1 → b ≠ i2 → h₁.get? b = some o → h.get? b = some o) →
      h.get? S = some { cls := .type "list", dict := none, data := .seq acc c, slots := #[] } → acc.toList = as.map Value.ref → as.length = i → Mad xs ys lo h as → lo ≤ h.objs.size →
      codeAny (model prog w) A (.builtin "list.extend.loop" ⟨[.ref S, .ref z, res], []⟩) R { s with heap := h, toks := tk } := by
  intro k
  induction k with
  | zero =>
    intro i h tk c acc as hk hi hst hL1 hL2 hkeep hSx hacc hal hG hIs
    refine codeAny_builtin PySem.F.entry_extend_loop ?_
    rw [Around.under_plainId PySem.F.plain_extend_loop _]
    show wpAny _ A.in1 (pyNext (.ref z) >>= _) _ _ _
    refine wpAny_bind (z_done (s := { s with heap := h, toks := tk }) (A := A.in1) hh D hst hL1 hL2 (Array.getElem?_eq_none (by omega)) fun h' he => ?_)
    refine wpAny_pure (hR h' tk acc c as (fun b o c0 c1 c2 c3 c4 e => he b o c1 c2 c3 c4 (hkeep b o c0 c1 c2 c3 c4 e)) (he S _ hS.1 hS.2.2.1 hS.2.2.2.1 hS.2.2.2.2 hSx) (by omega) ⟨hG.rise, hG.above, fun j a hj => ?_⟩ hacc)
    obtain ⟨x, y, e1, e2, e3⟩ := hG.pairs j a hj
    have ha := hG.above a (List.mem_of_getElem? hj)
    exact ⟨x, y, e1, e2, he a _ (Nat.ne_of_gt (Nat.lt_of_lt_of_le hlo.2.1 ha)) (Nat.ne_of_gt (Nat.lt_of_lt_of_le hlo.2.2.1 ha)) (Nat.ne_of_gt (Nat.lt_of_lt_of_le hlo.2.2.2.1 ha)) (Nat.ne_of_gt (Nat.lt_of_lt_of_le hlo.2.2.2.2 ha)) e3⟩
  | succ k ih =>
    intro i h tk c acc as hk hi hst hL1 hL2 hkeep hSx hacc hal hG hIs
    have hlt : i < xs.size := by omega
    obtain ⟨x, hx⟩ : ∃ p, xs[i]? = some p := ⟨xs[i], Array.getElem?_eq_getElem hlt⟩
    obtain ⟨y, hy⟩ : ∃ p, ys[i]? = some p := ⟨ys[i]'(by omega), Array.getElem?_eq_getElem (by omega)⟩
    have hsz : acc.size = i := by rw [← Array.length_toList, hacc, List.length_map, hal]
    have hSl : S < h.objs.size := Heap.lt_size hSx
    refine codeAny_builtin PySem.F.entry_extend_loop ?_
    rw [Around.under_plainId PySem.F.plain_extend_loop _]
    show wpAny _ A.in1 (pyNext (.ref z) >>= _) _ _ _
    refine wpAny_bind (z_item (s := { s with heap := h, toks := tk }) D hst hSl hL1 hL2 hx hy fun h' hst' ht hz hkp => ?_)
    dsimp only at ht hz hkp ⊢
    have hS' := hkp S _ hS.1 hS.2.2.1 hS.2.2.2.1 hS.2.2.2.2 hSx
    have up : ∀ b o, b ≠ S → h'.get? b = some o → (h'.update S (Obj.mapSeq (·.push (Value.ref h.objs.size)))).get? b = some o := fun b o hb e => (Heap.get?_update_other _ _ (Ne.symm hb)).trans e
    show wpAny _ A.in1 (updateSeq S (·.push (Value.ref h.objs.size)) >>= _) _ _ _
    refine wpAny_bind ?_
    refine wpAny_updateSeq hS' rfl (wpAny_pure ⟨plainId_quiet PySem.F.plain_extend_loop _, ih (i + 1) _ tk _ (acc.push (Value.ref h.objs.size)) (as ++ [h.objs.size]) (by omega) hlt (hst'.keep hS up)
      (hL1.at fun o e => up l1 o hl1S (hkp l1 o D.l1z D.l1TO D.l1i1 D.l1i2 e)) (hL2.at fun o e => up l2 o hl2S (hkp l2 o D.l2z D.l2TO D.l2i1 D.l2i2 e))
      (fun b o c0 c1 c2 c3 c4 e => up b o c0 (hkp b o c1 c2 c3 c4 (hkeep b o c0 c1 c2 c3 c4 e))) (Heap.get?_update_self _ hS' rfl) (by rw [Array.toList_push, hacc, List.map_append]; rfl) (by rw [List.length_append, hal]; rfl) ⟨?_, ?_, ?_⟩ ?_⟩) (by rw [hsz]; omega) (by show (acc.push (Value.ref h.objs.size)).size ≤ sizeLine + 1; rw [Array.size_push, hsz]; omega)
    · refine List.pairwise_append.mpr ⟨hG.rise, List.pairwise_singleton _ _, fun a ha b hb => ?_⟩
      rw [List.mem_singleton.mp hb]
      exact hG.there ha
    · intro a ha
      rcases List.mem_append.mp ha with ha | ha
      · exact hG.above a ha
      · rw [List.mem_singleton.mp ha]; exact hIs
    · intro j b hj
      rcases Nat.lt_trichotomy j as.length with q | q | q
      · rw [List.getElem?_append_left q] at hj
        obtain ⟨x', y', e1, e2, e3⟩ := hG.pairs j b hj
        have hb := hG.above b (List.mem_of_getElem? hj)
        exact ⟨x', y', e1, e2, up b _ (Nat.ne_of_gt (Nat.lt_of_lt_of_le hlo.1 hb)) (hkp b _ (Nat.ne_of_gt (Nat.lt_of_lt_of_le hlo.2.1 hb)) (Nat.ne_of_gt (Nat.lt_of_lt_of_le hlo.2.2.1 hb)) (Nat.ne_of_gt (Nat.lt_of_lt_of_le hlo.2.2.2.1 hb)) (Nat.ne_of_gt (Nat.lt_of_lt_of_le hlo.2.2.2.2 hb)) e3)⟩
      · subst q
        have hb : h.objs.size = b := by simpa using hj
        subst hb
        exact ⟨x, y, by rw [hal]; exact hx, by rw [hal]; exact hy, up _ _ (Nat.ne_of_gt hSl) ht⟩
      · have hnone : (as ++ [h.objs.size])[j]? = none := List.getElem?_eq_none (by rw [List.length_append, List.length_singleton]; omega)
        rw [hnone] at hj; cases hj
    · have e : (h'.update S (Obj.mapSeq (·.push (Value.ref h.objs.size)))).get? h.objs.size = _ := up _ _ (Nat.ne_of_gt hSl) ht
      exact Nat.le_of_lt (Nat.lt_of_le_of_lt hIs (Heap.lt_size e))
end
theorem zip_no_len : typeLookup (.type "zip") "__len__" = pure none := by rw [typeLookup_type, builtinLookup_eq_fast]; kernel_rfl
theorem zip_no_hint : typeLookup (.type "zip") "__length_hint__" = pure none := by rw [typeLookup_type, builtinLookup_eq_fast]; kernel_rfl
section
variable {prog : Program} {w : World} {A : Around} {E : Value → Shared → Prop} {s : Shared}
theorem z_extend {R : Result → Shared → Prop} {z TI TO i1 i2 l1 l2 S lo : Addr} {xs ys : Array Value} (hh : A.handled = none) (D : ZipApart z TI TO i1 i2 l1 l2) (hS : S ≠ z ∧ S ≠ TI ∧ S ≠ TO ∧ S ≠ i1 ∧ S ≠ i2) (hl1S : l1 ≠ S) (hl2S : l2 ≠ S) (hl : xs.size = ys.size) (hn : xs.size ≤ sizeLine)
    (hlo : S < lo ∧ z < lo ∧ TO < lo ∧ i1 < lo ∧ i2 < lo) (hlz : lo ≤ s.heap.objs.size) (res : Value) (c₀ : Nat) {TOa TOb : Value} (hz : IsZip s.heap z TI TO .none) (hTO : IsPair s.heap TO TOa TOb) (hTI : IsPair s.heap TI (.ref i1) (.ref i2)) (h1 : s.heap.IsListIter i1 l1 0) (h2 : s.heap.IsListIter i2 l2 0)
    (hL1 : s.heap.IsList l1 xs) (hL2 : s.heap.IsList l2 ys) (hSx : s.heap.get? S = some { cls := .type "list", data := .seq #[] c₀ })
    (hR : ∀ h' tk acc c as, (∀ b o, b ≠ S → b ≠ z → b ≠ TO → b ≠ i1 → b ≠ i2 → s.heap.get? b = some o → h'.get? b = some o) → h'.get? S = some { cls := .type "list", dict := none, data := .seq acc c, slots := #[] } → as.length = xs.size → Mad xs ys lo h' as →
      acc.toList = as.map Value.ref → R (.ok (.ret res)) { s with heap := h', toks := tk }) :
    wpAny (model prog w) A.in1 (Builtin.List.listExtendWith (.ref S) (.ref z) res)
      (fun fin s' => match fin with | .done f => R (.ok f) s' | .again c' => c'.quiet = true ∧ codeAny (model prog w) A c' R s') (fun e s' => R (.error e) s') s := by
  have hT : s.TypeIs (.ref z) "zip" := ⟨_, hz, rfl⟩
  unfold Builtin.List.listExtendWith
  refine wpAny_bind (wpAny_typeOf hT ?_)
  have g1 : Builtin.List.listSameRef (.ref S) (.ref z) = false := by simp [Builtin.List.listSameRef, hS.1]
  have g2 : (Value.type "zip" == Value.type "list") = false := by decide
  have g3 : (Value.type "zip" == Value.type "tuple") = false := by decide
  simp only [g1, g2, g3, Bool.or_false, Bool.false_eq_true, if_false]
  refine wpAny_bind (wpAny_pyIter_zip hz ?_)
  refine wpAny_bind (wpAny_holding ?_)
  unfold Builtin.List.listLengthHint
  refine wpAny_bind (wpAny_specialOf hT zip_no_len ?_)
  show wpAny _ A.in1 (specialOf (Value.ref z) (Str.ofString "__length_hint__") >>= _) _ _ _
  refine wpAny_bind (wpAny_specialOf hT zip_no_hint ?_)
  refine wpAny_pure ?_
  show wpAny _ A.in1 (rule "list.extend.makes-room" >>= fun _ => Builtin.List.listTouch (.ref S) >>= fun _ =>
    again (.builtin "list.extend.loop" ⟨[.ref S, .ref z, res], []⟩)) _ _ _
  refine wpAny_bind (wpAny_rule ?_)
  refine wpAny_bind ?_
  show wpAny _ A.in1 (updateSeq S (·.push .none) >>= fun _ => updateSeq S (·.pop)) _ _ _
  refine wpAny_bind (wpAny_updateSeq hSx rfl ?_)
  have hS₂ := Heap.get?_update_self (Obj.mapSeq (·.push Value.none)) hSx rfl
  refine wpAny_updateSeq (hz := by seq_fits) hS₂ rfl ?_
  have hS₃ := Heap.get?_update_self (Obj.mapSeq (·.pop)) hS₂ rfl
  have oth : ∀ b o, b ≠ S → s.heap.get? b = some o → ((s.heap.update S (Obj.mapSeq (·.push Value.none))).update S (Obj.mapSeq (·.pop))).get? b = some o := fun b o hb e => (Heap.get?_update_other _ _ (Ne.symm hb)).trans ((Heap.get?_update_other _ _ (Ne.symm hb)).trans e)
  refine wpAny_pure ⟨plainId_quiet PySem.F.plain_extend_loop _, ?_⟩
  have st : ZSt s.heap z TI TO i1 i2 l1 l2 S 0 := ⟨.inl ⟨hz, _, _, hTO⟩, hTI, h1, h2⟩
  refine z_loop (s := s) (h₁ := s.heap) hh D hS hl1S hl2S hl hn hlo res hR xs.size 0 _ s.toks _ #[] [] (Nat.sub_zero _) (Nat.zero_le _) (st.keep hS oth) (hL1.at fun o e => oth l1 o hl1S e) (hL2.at fun o e => oth l2 o hl2S e) (fun b o c0 _ _ _ _ e => oth b o c0 e) hS₃ rfl rfl ⟨List.Pairwise.nil, (fun _ ha => nomatch ha), (fun j a hj => by simp at hj)⟩ ?_
  rw [Heap.size_update, Heap.size_update]
  exact hlz
theorem z_call {Q : Value → Shared → Prop} {z TI TO i1 i2 l1 l2 : Addr} {xs ys : Array Value} {TOa TOb : Value} (hh : A.handled = none) (D : ZipApart z TI TO i1 i2 l1 l2) (hl : xs.size = ys.size) (hn : xs.size ≤ sizeLine)
    (hz : IsZip s.heap z TI TO .none) (hTO : IsPair s.heap TO TOa TOb) (hTI : IsPair s.heap TI (.ref i1) (.ref i2)) (h1 : s.heap.IsListIter i1 l1 0) (h2 : s.heap.IsListIter i2 l2 0) (hL1 : s.heap.IsList l1 xs) (hL2 : s.heap.IsList l2 ys)
    (hQ : ∀ h' tk acc c as, (∀ b o, b ≠ z → b ≠ TO → b ≠ i1 → b ≠ i2 → s.heap.get? b = some o → h'.get? b = some o) → h'.get? s.heap.objs.size = some { cls := .type "list", dict := none, data := .seq acc c, slots := #[] } → as.length = xs.size → Mad xs ys (s.heap.objs.size + 1) h' as →
      acc.toList = as.map Value.ref → Q (.ref s.heap.objs.size) { s with heap := h', toks := tk }) :
    wpAny (model prog w) A (call (.type "list") [.ref z]) Q E s := by
  refine callType_codes (Q₁ := fun obj s₁ => obj = .ref s.heap.objs.size ∧ s₁ = { s with heap := s.heap.push { cls := .type "list", data := .seq #[] } }) PySem.F.called_list (PySem.F.typeCall_list_1 _) PySem.F.entry_list_init
    (code_list_new _ ⟨rfl, rfl⟩) fun obj s₁ h₁ => ?_
  obtain ⟨rfl, rfl⟩ := h₁
  have hS : (s.heap.push { cls := .type "list", data := .seq #[] }).get? s.heap.objs.size = some { cls := .type "list", data := .seq #[] } := Heap.get?_push_size _ rfl
  have lz : z < s.heap.objs.size := Heap.lt_size hz
  have lTI : TI < s.heap.objs.size := Heap.lt_size hTI
  have lTO : TO < s.heap.objs.size := Heap.lt_size hTO
  have li1 : i1 < s.heap.objs.size := by obtain ⟨_, e, _⟩ := h1; exact Heap.lt_size e
  have li2 : i2 < s.heap.objs.size := by obtain ⟨_, e, _⟩ := h2; exact Heap.lt_size e
  have ll1 : l1 < s.heap.objs.size := by obtain ⟨_, e, _⟩ := hL1; exact Heap.lt_size e
  have ll2 : l2 < s.heap.objs.size := by obtain ⟨_, e, _⟩ := hL2; exact Heap.lt_size e
  refine ⟨⟨_, hS, rfl⟩, PySem.F.args_list_init_2 _ _, ?_⟩
  show wpAny _ _ (do let old ← Builtin.List.listItems (.ref s.heap.objs.size); Builtin.List.listUpdate (.ref s.heap.objs.size) (fun _ => #[]); letGo old.toList.reverse; Builtin.List.listExtendWith (.ref s.heap.objs.size) (.ref z) .none) _ _ _
  refine wpAny_bind ?_
  unfold Builtin.List.listItems
  refine wpAny_bind (wpAny_seqItems hS rfl (wpAny_pure ?_))
  show wpAny _ _ (updateSeq s.heap.objs.size (fun _ => #[]) >>= fun _ => letGo (#[] : Array Value).toList.reverse >>= fun _ => Builtin.List.listExtendWith (.ref s.heap.objs.size) (.ref z) .none) _ _ _
  refine wpAny_bind (wpAny_updateSeq hS rfl ?_)
  have hS₂ := Heap.get?_update_self (Obj.mapSeq (fun _ => (#[] : Array Value))) hS rfl
  have oth : ∀ b o, s.heap.get? b = some o → ((s.heap.push { cls := .type "list", data := .seq #[] }).update s.heap.objs.size (Obj.mapSeq (fun _ => (#[] : Array Value)))).get? b = some o :=
    fun b o e => (Heap.get?_update_other _ _ (Nat.ne_of_gt (Heap.lt_size e))).trans (Heap.get?_push_of_some _ e)
  refine wpAny_bind (wpAny_letGo ?_)
  refine z_extend (A := A.in1) (lo := s.heap.objs.size + 1) hh D ⟨Nat.ne_of_gt lz, Nat.ne_of_gt lTI, Nat.ne_of_gt lTO, Nat.ne_of_gt li1, Nat.ne_of_gt li2⟩ (Nat.ne_of_lt ll1) (Nat.ne_of_lt ll2) hl hn ⟨Nat.lt_succ_self _, Nat.lt_succ_of_lt lz, Nat.lt_succ_of_lt lTO, Nat.lt_succ_of_lt li1, Nat.lt_succ_of_lt li2⟩ ?_ .none _ (oth _ _ hz) (oth _ _ hTO) (oth _ _ hTI) (h1.at fun o e => oth _ o e) (h2.at fun o e => oth _ o e) (hL1.at fun o e => oth _ o e) (hL2.at fun o e => oth _ o e) hS₂
    (fun h' tk acc c as hk hS' hla hG hacc => ?_)
  · rw [Heap.size_update, Heap.size_push]; exact Nat.le_refl _
  · exact ⟨rfl, hQ h' tk acc c as (fun b o c1 c2 c3 c4 e => hk b o (Nat.ne_of_lt (Heap.lt_size e)) c1 c2 c3 c4 (oth b o e)) hS' hla hG hacc⟩
end
end ZipL
end
set_option Elab.async false
set_option linter.all false
set_option maxRecDepth 100000
set_option maxHeartbeats 1000000
noncomputable section
namespace MP
open PySem PySem.Spec PyProof.Rows L2
/-! ### list(zip(a, b)) -/
def putP : Hp → List Addr → List (V × V) → Hp
  | H, a :: as, p :: ps => putP (upd H a (.tup [p.1, p.2])) as ps
  | H, _, _ => H
theorem putP_off {b : Addr} : ∀ (as : List Addr) (ps : List (V × V)) (H : Hp), b ∉ as → putP H as ps b = H b
  | [], _, _, _ => rfl
  | _ :: _, [], _, _ => rfl
  | a :: as, p :: ps, H, h => by
    show putP (upd H a (.tup [p.1, p.2])) as ps b = H b
    rw [putP_off as ps _ (fun z => h (List.mem_cons_of_mem _ z)), upd_ne (fun z => h (by rw [z]; exact List.mem_cons_self))]
theorem putP_at : ∀ (as : List Addr) (ps : List (V × V)) (H : Hp), as.length = ps.length → as.Nodup → ∀ (j : Nat) (a : Addr) (p : V × V), as[j]? = some a → ps[j]? = some p → putP H as ps a = some (.tup [p.1, p.2])
  | [], _, _, _, _, j, a, p, h, _ => by simp at h
  | _ :: _, [], _, h, _, _, _, _, _, _ => by cases h
  | a0 :: as, p0 :: ps, H, h, hn, 0, a, p, h1, h2 => by
    have hn' := List.nodup_cons.mp hn
    simp at h1 h2
    subst h1 h2
    show putP (upd H a0 (.tup [p0.1, p0.2])) as ps a0 = _
    rw [putP_off as ps _ hn'.1, upd_same]
  | a0 :: as, p0 :: ps, H, h, hn, j + 1, a, p, h1, h2 => by
    have hn' := List.nodup_cons.mp hn
    simp at h1 h2
    exact putP_at as ps _ (Nat.succ.inj h) hn'.2 j a p h1 h2
/-- new objects alone -/
theorem Go.more {H H' : Hp} {α : TR} {N : Nat} {K : PySem.W.Frag} {μ : Mem} (R : Rel K μ α H) (hk : ∀ b u, H b = some u → H' b = some u) : Go H α N H' α N := by
  refine ⟨Nat.le_refl _, fun a o h _ => hk a o h, fun a h => ?_, fun _ h => .inl h, fun _ _ h => .inl h, rfl, fun a ha => ?_⟩
  · cases q : H a with
    | none => exact absurd q h
    | some o => rw [hk a o q]; exact fun z => nomatch z
  · obtain ⟨xs, hx⟩ := R.hl a ha
    rw [hk a _ hx, hx]
theorem Rel.more {H H' : Hp} {α : TR} {K : PySem.W.Frag} {μ : Mem} (R : Rel K μ α H) (hk : ∀ b u, H b = some u → H' b = some u) : Rel K μ α H' :=
  ⟨R.inj, R.dom, fun n c h => (R.cell n c h).go (Go.more R hk) rfl (fun a ha => by
    cases q : H a with
    | none => exact absurd q (R.live ha)
    | some o => exact hk a o q) (fun a dx _ h => hk dx _ h), R.dis, fun a ha => let ⟨xs, h⟩ := R.hl a ha; ⟨xs, hk a _ h⟩⟩

theorem vals_at {xs : List V} {us : List Value} {i : Nat} {x : V} {u : Value} (r : Vals xs us) (e : xs[i]? = some x) (h : us[i]? = some u) : RelV x u := by
  obtain ⟨u', h1, h2⟩ := r.get e
  rw [h] at h1
  cases h1
  exact h2
theorem zip_laid {X : Cx} {pins : List (Addr × Obj)} {σ : L2.St} {H : Hp} {s : Shared} {h' : Heap} {tk S : Nat} {xs ys : List V} {xa ya acc : Array Value} {c : Nat} {as : List Addr} (I : Inv X pins σ H s) (hS0 : s.heap.objs.size ≤ S) (hz : xs.length ≤ sizeLine) (hxy : xs.length = ys.length)
    (vx : Vals xs xa.toList) (vy : Vals ys ya.toList)
    (hk : ∀ b o, s.heap.get? b = some o → h'.get? b = some o) (hS : h'.get? S = some { cls := .type "list", dict := none, data := .seq acc c, slots := #[] }) (hl : as.length = xs.length) (hG : ZipL.Mad xa ya (S + 1) h' as) (hacc : acc.toList = as.map Value.ref) :
    ∃ H' : Hp, (∀ b o, H b = some o → H' b = some o) ∧ (∀ t ∈ as, H t = none) ∧ H S = none ∧ H' S = some (.lst (as.map V.ref)) ∧ (∀ (j : Nat) (a : Addr) (p : V × V), as[j]? = some a → (xs.zip ys)[j]? = some p → H' a = some (.tup [p.1, p.2])) ∧ Inv X pins σ H' { s with heap := h', toks := tk } := by
  have hSn : S ∉ as := fun z => Nat.lt_irrefl _ (Nat.lt_of_lt_of_le (Nat.lt_succ_self _) (hG.above _ z))
  have nd : as.Nodup := List.Pairwise.imp (fun {a b} (h : a < b) => Nat.ne_of_lt h) hG.rise
  have up : ∀ t ∈ as, s.heap.objs.size ≤ t := fun t ht => Nat.le_trans hS0 (Nat.le_of_lt (hG.above t ht))
  have new : ∀ t ∈ as, H t = none := fun t ht => I.hok.fresh (up t ht)
  have newS : H S = none := I.hok.fresh hS0
  have lz : as.length = (xs.zip ys).length := by rw [List.length_zip, ← hxy, Nat.min_self]; exact hl
  have atP := putP_at as (xs.zip ys) (upd H S (.lst (as.map V.ref))) lz nd
  have off : ∀ b, b ∉ as → b ≠ S → putP (upd H S (.lst (as.map V.ref))) as (xs.zip ys) b = H b := fun b h1 h2 => by rw [putP_off as _ _ h1, upd_ne h2]
  have low : ∀ b o, s.heap.get? b = some o → b ∉ as ∧ b ≠ S := fun b o e => ⟨fun z => absurd (Heap.lt_size e) (Nat.not_lt.mpr (up b z)), Nat.ne_of_lt (Nat.lt_of_lt_of_le (Heap.lt_size e) hS0)⟩
  have kp : ∀ b u, H b = some u → (putP (upd H S (.lst (as.map V.ref))) as (xs.zip ys)) b = some u := fun b u e => by
    rw [off b (fun z => by rw [new b z] at e; cases e) (fun z => by rw [z, newS] at e; cases e)]
    exact e
  have eS : putP (upd H S (.lst (as.map V.ref))) as (xs.zip ys) S = some (.lst (as.map V.ref)) := by rw [putP_off as _ _ hSn, upd_same]
  refine ⟨putP (upd H S (.lst (as.map V.ref))) as (xs.zip ys), kp, new, newS, eS, atP, ?_⟩
  refine I.call' (ch := []) rfl ⟨fun b o q _ _ _ => hk b o q, fun b o q _ _ _ => ⟨o.slots, hk b o q⟩, fun b o q n _ => ?_, fun b o q _ => ⟨o, hk b o q⟩, fun b xs q => kp b _ q, fun b o u q => kp b _ q, fun b ps q => ⟨#[], by rw [kp b _ q]; simp⟩⟩ (fun b u q => ?_) I.bare fun b z => by simp at z
  · obtain ⟨z1, z2⟩ := low b o q
    rw [off b z1 z2]
    exact n
  · by_cases hb : b ∈ as
    · obtain ⟨j, hj⟩ := List.mem_iff_getElem?.mp hb
      obtain ⟨x, y, e1, e2, e3⟩ := hG.pairs j b hj
      have hjl : j < (xs.zip ys).length := by rw [← lz]; exact (List.getElem?_eq_some_iff.mp hj).1
      obtain ⟨p, hp⟩ : ∃ p, (xs.zip ys)[j]? = some p := ⟨_, List.getElem?_eq_getElem hjl⟩
      rw [atP j b p hj hp] at q
      cases q
      obtain ⟨p1, p2⟩ := List.getElem?_zip_eq_some.mp hp
      have r1 : RelV p.1 x := vals_at vx p1 (by rw [Array.getElem?_toList]; exact e1)
      have r2 : RelV p.2 y := vals_at vy p2 (by rw [Array.getElem?_toList]; exact e2)
      exact ⟨by show 2 ≤ sizeLine; decide, [x, y], .cons r1 (.cons r2 .nil), ⟨_, e3, rfl, _, rfl⟩⟩
    · by_cases hb2 : b = S
      · rw [hb2] at q ⊢
        rw [eS] at q
        cases q
        refine ⟨by rw [List.length_map]; omega, acc.toList, c, by rw [hacc]; exact LiI.vals_refs as, ?_⟩
        rw [Array.toArray_toList]
        exact hS
      · rw [off b hb hb2] at q
        exact (I.hok b u q).stay (fun d v _ y => hk d v y) (fun d y => kp d _ y) fun d xs y => kp d _ y
def rZipL (K : PySem.W.Frag) : List V → Hp → VK → Prop := fun vs H Q => ∃ a b xs ys, vs = [.ref a, .ref b] ∧ H a = some (.lst xs) ∧ H b = some (.lst ys) ∧ xs.length = ys.length ∧ xs.length ≤ sizeLine ∧
  ∀ (H' : Hp) (p : Addr) (ts : List Addr), (∀ b o, H b = some o → H' b = some o) → H p = none → (∀ t ∈ ts, H t = none) → ts.length = xs.length → H' p = some (.lst (ts.map V.ref)) → (∀ (j : Nat) (a : Addr) (p : V × V), ts[j]? = some a → (xs.zip ys)[j]? = some p → H' a = some (.tup [p.1, p.2])) → Q (.ref p) H'
theorem pe_listZip {X : Cx} {p p2 pos pos2 : Pos} {a b : Expr} {ta : TA} (hc : X.calm = true) (hg : Gl X "list") (hm : X.mg "list" = none) (hg2 : Gl X "zip") (hm2 : X.mg "zip" = none) (ha : PA X [a, b] ta)
    (hs2 : starEach [a, b] X.env = (false, eval a X.env) :: starEach [b] X.env := by rfl) (hpl2 : (backTo pos2 (starEach [b] X.env)).any (·.1) = false := by rfl)
    (hs : starEach [.Call (.Name "zip" p2) [a, b] [] pos2] X.env = (false, eval (.Call (.Name "zip" p2) [a, b] [] pos2) X.env) :: starEach [] X.env := by rfl) :
    PE X (.Call (.Name "list" p) [.Call (.Name "zip" p2) [a, b] [] pos2] [] pos) (tCB (rZipL X.K) ta) := by
  refine ⟨fun pins s σ H Q I h => ?_⟩
  refine wpAny_Call_Name_kw (ld_blt I hg hm PyProof.Rows.boot_list ?_)
  refine PyProof.Rows.callWith_type1 ?_ hs rfl
  rw [hs]
  show wpAny _ _ (spliced ((false, eval (.Call (.Name "zip" p2) [a, b] [] pos2) X.env) :: backTo pos (starEach [] X.env))) _ _ s
  refine Calls.spliced_cons ?_
  refine Call_ (ld_blt I hg2 hm2 PyProof.Rows.boot_zip (PyProof.Rows.callWith_type1 (thn (ha.run pos2 pins s σ H _ I h) fun us s1 ⟨vs, H1, I1, r1, q1⟩ => ?_) hs2 hpl2))
  obtain ⟨a, b, xs, ys, ex, hqx, hqy, hxy, hz, q⟩ := q1
  subst ex
  cases r1 with
  | cons r rr =>
    cases rr with
    | cons r' rr =>
      cases rr
      cases r
      cases r'
      obtain ⟨its, rv, p1, _⟩ := I1.list (.of hqx)
      obtain ⟨its2, rv2, p2, _⟩ := I1.list (.of hqy)
      have la : a < s1.heap.objs.size := p1.lt
      have lb : b < s1.heap.objs.size := p2.lt
      have le1 : xs.length = its.length := rv.length
      have le2 : ys.length = its2.length := rv2.length
      refine call_zip_2 p1.isList p2.isList fun h' hz' hTI hTO h1 h2 hsz hk => Calls.spliced_nil ?_
      refine ZipL.z_call (s := { s1 with heap := h' }) (I1.ok.hd hc) (PySem.W.ktu_apart s1.heap.objs.size a b la lb) (xs := its.toArray) (ys := its2.toArray) (by simp; omega) (by simp; omega) hz' hTO hTI h1 h2 (p1.isList.at fun o e => hk _ o e) (p2.isList.at fun o e => hk _ o e)
        fun h'' tk acc c as hk2 hS hla hM hacc => ?_
      have hkk : ∀ b o, s1.heap.get? b = some o → h''.get? b = some o := fun b o e => by
        have hb := Heap.lt_size e
        have hb : (b : Nat) < s1.heap.objs.size := hb
        refine hk2 b o ?_ ?_ ?_ ?_ (hk b o e)
        · exact Nat.ne_of_lt (Nat.lt_of_lt_of_le hb (Nat.le_add_right _ _))
        · exact Nat.ne_of_lt (Nat.lt_of_lt_of_le hb (Nat.le_add_right _ _))
        · exact Nat.ne_of_lt hb
        · exact Nat.ne_of_lt (Nat.lt_of_lt_of_le hb (Nat.le_add_right _ _))
      obtain ⟨H', k1, k2, k3, k4, k5, J⟩ := zip_laid (tk := tk) I1 (S := h'.objs.size) (by omega) hz hxy (xa := its.toArray) (ya := its2.toArray) (by simpa using rv) (by simpa using rv2) hkk hS (by rw [hla]; simp; omega) hM hacc
      exact ⟨.ref _, H', J, rfl, q H' _ as k1 k3 k2 (by rw [hla]; simp; omega) k4 k5⟩
/-! ### the rule -/
def zipD (xs ys : List D) : List D := (xs.zip ys).map fun p => .tup [p.1, p.2]
def mZip (a b : ME) : ME := fun e μ => (a e μ).bind fun d μ1 => (b e μ1).bind fun d2 μ2 => match viewL μ2 d, viewL μ2 d2 with
  | some xs, some ys => if xs.length = ys.length then .ok (.lst (zipD xs ys)) μ2 else .stuck
  | _, _ => .stuck
def fZip : FN := f2 fun d d2 μ2 => match viewL μ2 d, viewL μ2 d2 with
  | some xs, some ys => if xs.length = ys.length then .ok (.lst (zipD xs ys)) μ2 else .stuck
  | _, _ => .stuck
theorem zip_rps {K : PySem.W.Frag} {H' : Hp} {α : TR} {N : Nat} : ∀ {ds es : List D} {xs ys : List V} {ts : List Addr}, Rps K H' α N ds xs → Rps K H' α N es ys → xs.length = ys.length → ts.length = xs.length → (∀ t ∈ ts, ¬ Lv α t) →
    (∀ (j : Nat) (a : Addr) (p : V × V), ts[j]? = some a → (xs.zip ys)[j]? = some p → H' a = some (.tup [p.1, p.2])) → Rps K H' α N (zipD ds es) (ts.map V.ref)
  | [], es, xs, ys, ts, r1, r2, l1, l2, _, _ => by
    have e := Rps.nil_inv r1
    subst e
    have e : ts = [] := List.length_eq_zero_iff.mp l2
    subst e
    exact Rps.nil
  | d :: ds, [], xs, ys, ts, r1, r2, l1, l2, _, _ => by
    have e := Rps.nil_inv r2
    subst e
    obtain ⟨v, r, rfl, _, _⟩ := Rps.cons_inv r1
    cases l1
  | d :: ds, e :: es, xs, ys, [], r1, r2, l1, l2, _, _ => by
    obtain ⟨v, r, rfl, _, _⟩ := Rps.cons_inv r1
    cases l2
  | d :: ds, e :: es, xs, ys, t :: ts, r1, r2, l1, l2, hn, hp => by
    obtain ⟨v, r, rfl, a1, a2⟩ := Rps.cons_inv r1
    obtain ⟨v', r', rfl, b1, b2⟩ := Rps.cons_inv r2
    refine Rps.cons ?_ (zip_rps a2 b2 (Nat.succ.inj l1) (Nat.succ.inj l2) (fun t ht => hn t (List.mem_cons_of_mem _ ht)) fun j a p h1 h2 => hp (j + 1) a p h1 h2)
    show Rp _ _ _ _ (.tup [d, e]) _
    unfold Rp
    exact ⟨by show 2 ≤ _; exact line_of (by decide), t, [v, v'], rfl, .inl ⟨.inl (hp 0 t (v, v') rfl rfl), hn t List.mem_cons_self⟩, Rps.cons a1 (Rps.cons b1 Rps.nil)⟩
theorem does_zip {K : PySem.W.Frag} : DoesN K fZip (rZipL K) := does2 fun W Q e σ μ α H d d2 v v2 r1 r2 h => by
  split at h
  · rename_i xs ys q1 q2
    split at h
    · rename_i c
      obtain ⟨a, us, rfl, ha, ra, za⟩ := viewL_at h.rel r1 q1
      obtain ⟨b, ws, rfl, hb, rb, zb⟩ := viewL_at h.rel r2 q2
      refine ⟨a, b, us, ws, rfl, ha, hb, by rw [ra.length, rb.length]; exact c, by rw [ra.length]; exact za, fun H' p ts k1 k2 k3 k4 k5 k6 => ?_⟩
      have g := Go.more (N := μ.length) h.rel k1
      refine h.post _ _ α g (h.rel.more k1) ?_
      show Rp _ _ _ _ _ _
      unfold Rp
      refine ⟨by unfold zipD; rw [List.length_map, List.length_zip]; exact Nat.le_trans (Nat.min_le_left _ _) za, p, _, rfl, ⟨k5, h.rel.fresh k2⟩, ?_⟩
      exact zip_rps (ra.go g) (rb.go g) (by rw [ra.length, rb.length]; exact c) k4 (fun t ht => h.rel.fresh (k3 t ht)) k6
    · exact h.post.elim
  · exact h.post.elim
section
variable {X : Cx} {W : WS} {p p2 pos pos2 : Pos} {a b : Expr} {ma mb : ME}
theorem mZip_eq {ma mb : ME} : mCB fZip (mCons ma (mCons mb mNil)) = mZip ma mb := by
  funext e μ
  unfold mCB mCons mZip mNil
  cases h1 : ma e μ with
  | ok d μ1 =>
    simp only [Res.bind_ok]
    cases h2 : mb e μ1 with
    | ok d2 μ2 => rfl
    | exc => rfl
    | stuck => rfl
  | exc => rfl
  | stuck => rfl
theorem d_zip (hc : X.calm = true) (hg : Gl X "list") (hm : X.mg "list" = none) (hg2 : Gl X "zip") (hm2 : X.mg "zip" = none) (ha : PE X a (tM X.K W ma)) (hb : PE X b (tM X.K W mb))
    (hs2 : starEach [a, b] X.env = (false, eval a X.env) :: starEach [b] X.env := by rfl) (hs3 : starEach [b] X.env = (false, eval b X.env) :: starEach [] X.env := by rfl) (hpl2 : (backTo pos2 (starEach [b] X.env)).any (·.1) = false := by rfl)
    (hs : starEach [.Call (.Name "zip" p2) [a, b] [] pos2] X.env = (false, eval (.Call (.Name "zip" p2) [a, b] [] pos2) X.env) :: starEach [] X.env := by rfl) :
    PE X (.Call (.Name "list" p) [.Call (.Name "zip" p2) [a, b] [] pos2] [] pos) (tM X.K W (mZip ma mb)) :=
  (pe_listZip hc hg hm hg2 hm2 (a_cons ha (a_cons hb a_nil hs3) hs2) hs2 hpl2 hs).imp fun σ H Q h => tM_CB does_zip (by rw [mZip_eq]; exact h)
end
end MP
end
set_option Elab.async false
set_option linter.all false
set_option maxRecDepth 100000
set_option maxHeartbeats 1000000
noncomputable section
namespace MP
open PySem PySem.Spec PyProof.Rows L2
theorem nmem {i j : Nat} (h : i ≠ j) : i ∉ [j] := fun z => h (List.mem_singleton.mp z)
end MP
end
set_option Elab.async false
set_option linter.all false
set_option maxRecDepth 100000
set_option maxHeartbeats 1000000
noncomputable section
namespace MP
open PySem PySem.Spec PyProof.Rows L2
/-! ### the head's facts, with a test of one's own -/
def obsE (ex : PySem.W.Frag → Bool) (fa : List He.Fa) (fn : List He.DefD) (K : PySem.W.Frag) : He.AlD := (((fa.all fun f => f.ok K) && fn.all fun d => d.ok K) && ex K, fn.map fun d => He.fnW K d.at_)
def SaysE (ex : PySem.W.Frag → Bool) (fa : List He.Fa) (fn : List He.DefD) (K : PySem.W.Frag) : Prop := obsE ex fa fn K = He.valD fn
def obsEG (ex : PySem.W.Frag → Bool) (n : Nat) (fa : List He.Fa) (fn : List He.DefD) (g : Addr → Option Obj) : He.AlD := obsE ex fa fn (He.frG g (He.asD g n))
def hookE (ex : PySem.W.Frag → Bool) (n : Nat) (fa : List He.Fa) (fn : List He.DefD) : PySem.W.Hook where
  α := He.AlD
  obs := fun s => obsEG ex n fa fn s.heap.get?
  val := fun _ => He.valD fn
  says := fun _ h => ∃ K : PySem.W.Frag, K.In h ∧ SaysE ex fa fn K
  of := fun _ _ e => ⟨_, He.frG_in, e⟩
  keeps := fun _ _ _ ⟨K, hK, c⟩ k => ⟨K, PySem.W.Frag.In.keeps hK k, c⟩
theorem obsEG_eq {ex : PySem.W.Frag → Bool} {n : Nat} {fa : List He.Fa} {fn : List He.DefD} {g : Addr → Option Obj} {s : Shared} (h : ∀ a, g a = s.heap.get? a) : obsEG ex n fa fn g = (hookE ex n fa fn).obs s := by
  have e : g = s.heap.get? := funext h
  rw [e] <;> rfl
theorem SaysE.d {ex : PySem.W.Frag → Bool} {fa : List He.Fa} {fn : List He.DefD} {K : PySem.W.Frag} (c : SaysE ex fa fn K) : He.SaysD fa fn K ∧ ex K = true := by
  have c1 : (((fa.all fun f => f.ok K) && fn.all fun d => d.ok K) && ex K) = true := congrArg (fun z : He.AlD => z.1) c
  have c2 : (fn.map fun d => He.fnW K d.at_) = fn.map He.DefD.val := congrArg (fun z : He.AlD => z.2) c
  obtain ⟨h1, h2⟩ := Bool.and_eq_true_iff.mp c1
  refine ⟨?_, h2⟩
  unfold He.SaysD He.obsD He.valD
  rw [h1, c2]
/-- a def that lets no exception out -/
theorem to0 {P : Program} {w : World} {K : PySem.W.Frag} {mg : Str → Option Value} {base : Heap} {k : Nat} {f : Addr} {fd : FuncData} {ps : List Str} {sp : Sp} (F : FnOk P w K mg base (L2.CX P w) k f fd ps sp) :
    FnOk P w K mg base (fun _ _ _ _ _ _ => False) k f fd ps (fun vs H Q _ => sp vs H Q fun _ _ _ => False) :=
  ⟨fun vs H Q E h => F.len vs H Q _ h, fun A outer s H args us vs Q E hr he hb hv hs => codeAny_mono (F.run A outer s H args us vs Q (fun _ _ _ => False) hr he hb hv hs) fun r s' h => by
    cases r with
    | error e =>
      obtain ⟨_, _, _, _, _, _, _, _, _, _, _, _, z⟩ := (show L2.CX P w outer H s (fun _ _ _ => False) e s' from h)
      exact z.elim
    | ok fl => cases fl <;> exact h⟩
/-- the script is what the law's plain function is given -/
theorem sp_law {K : PySem.W.Frag} {F : FN} {H : Hp} {a : Addr} {ns : List Int} (hO : Only H) (hS : SqL K H a (ns.map V.int)) (h : ∃ μ', F [.scr ns] [] = .ok (.bl true) μ') : spM K 1 F [.ref a] H (fun v _ => v = .bl true) fun _ _ _ => False := by
  obtain ⟨μ', h⟩ := h
  have nl : ∀ b, ¬ Lv ⟨fun _ => none, []⟩ b := fun b e => by
    rcases e with ⟨n, e⟩ | e
    · cases e
    · cases e
  refine ⟨[.scr ns], [], ⟨fun _ => none, []⟩, rfl, Rps.cons ?_ Rps.nil, ⟨(fun _ _ _ h => by cases h), (fun _ _ h => by cases h), (fun _ _ h => by simp at h), (fun _ _ h => by cases h), (fun _ h => by cases h)⟩, ?_⟩
  · unfold Rp
    exact ⟨a, rfl, hS.elim (fun z => .inl ⟨z, nl a⟩) .inr⟩
  · rw [h]
    exact fun v H' α' g R r => rp_bl_iff r
end MP
end
set_option Elab.async false
set_option linter.all false
set_option maxRecDepth 100000
set_option maxHeartbeats 4000000
noncomputable section
namespace Lw
open PySem PySem.Spec PyProof.Rows L2 MP
def top (i : Nat) : Stmt := PySem.Challenge.pw_toldatlast_k55_tellings_that_are_none.main.body.getD i (.Pass ⟨0, 0, 0, 0⟩)
structure Txt (K : PySem.W.Frag) (mg : Str → Option Value) : Prop where
  c_LETTERS : ∃ t, mg "LETTERS" = some (.str "abcdefghijklmnopqrstuvwxyz" t)
  n_abs : mg "abs" = none
  n_all : mg "all" = none
  n_int : mg "int" = none
  n_isinstance : mg "isinstance" = none
  n_len : mg "len" = none
  n_list : mg "list" = none
  n_max : mg "max" = none
  n_min : mg "min" = none
  n_range : mg "range" = none
  n_zip : mg "zip" = none
  e_Unreadable_TellError : PySem.W.exmOne K (.ref (He.ga K "Unreadable")) (.ref (He.ga K "TellError")) = some true
  g_InvalidName : mg "InvalidName" = some (.ref (He.ga K "InvalidName"))
  g_TellError : mg "TellError" = some (.ref (He.ga K "TellError"))
  g_Unreadable : mg "Unreadable" = some (.ref (He.ga K "Unreadable"))
  k_Unreadable_InvalidName : PySem.W.kitOne K (.ref (He.ga K "Unreadable")) (.ref (He.ga K "InvalidName")) = some false
  k_Unreadable_Unreadable : PySem.W.kitOne K (.ref (He.ga K "Unreadable")) (.ref (He.ga K "Unreadable")) = some true
  x_Unreadable : ExOk K "Unreadable" (He.ma K (He.ga K "TellError") "__init__")
  g__law_purse : mg "_law_purse" = some (.ref (He.ga K "_law_purse"))
  g__law_coin : mg "_law_coin" = some (.ref (He.ga K "_law_coin"))
  g_is_name : mg "is_name" = some (.ref (He.ga K "is_name"))
  g_show_told : mg "show_told" = some (.ref (He.ga K "show_told"))
  g_read_told : mg "read_told" = some (.ref (He.ga K "read_told"))
  g__law_menu : mg "_law_menu" = some (.ref (He.ga K "_law_menu"))
  g__law_is_title : mg "_law_is_title" = some (.ref (He.ga K "_law_is_title"))
  g__law_told_of : mg "_law_told_of" = some (.ref (He.ga K "_law_told_of"))
  g__law_caught : mg "_law_caught" = some (.ref (He.ga K "_law_caught"))
  g__law_odd : mg "_law_odd" = some (.ref (He.ga K "_law_odd"))
  g__law_marred : mg "_law_marred" = some (.ref (He.ga K "_law_marred"))
  g__law_right : mg "_law_right" = some (.ref (He.ga K "_law_right"))
  g_law : mg "law" = some (.ref (He.ga K "law"))
section
variable {P : Program} {w : World} {K : PySem.W.Frag} {mg : Str → Option Value} {base : Heap}
abbrev s__law_purse : Stmt := top 12
theorem sc__law_purse : FnScope ["script", "place", "cell"] ["script", "place"] (defScope s__law_purse) := ⟨rfl, rfl, rfl, by decide +kernel, rfl, by decide +kernel, by decide +kernel⟩
def m__law_purse : MS := (mSeq (mAsg (mIf (mTb (mBin fLt (mVar 1) (mCB fLen (mCons (mVar 0) mNil)))) (mBin fIx (mVar 0) (mVar 1)) (mC (.int 0))) (oName 2)) (mRet (mCel (mCons (mCB fMax (mCons (mC (.int 0)) (mCons (mBin fSub (mCB fAbs (mCons (mVar 2) mNil)) (mBin fPow (mC (.int 10)) (mC (.int 18)))) mNil))) (mCons (mBin fMod (mCB fInt (mCons (mBin fAdd (mBin fAdd (mBin fMul (mVar 2) (mC (.int 30011))) (mBin fMul (mVar 1) (mC (.int 7368787)))) (mC (.int 104729))) mNil)) (mBin fAdd (mBin fPow (mC (.int 10)) (mC (.int 24))) (mC (.int 7)))) (mCons (mC (.int 0)) mNil))))))
theorem F__law_purse (T : Txt K mg) (D : ∃ fd, FunD K "_law_purse" "_law_purse" (defArgs s__law_purse) (defBody s__law_purse) (defScope s__law_purse) [] [] (He.ga K "_law_purse") fd) : Fnc P w K mg base "_law_purse" 1 2 (fnM 3 m__law_purse) := by
  have sc := sc__law_purse
  exact fnc_mk (ps := ["script", "place"]) (N := ["script", "place", "cell"]) (k := 0) (m := m__law_purse) T.g__law_purse D sc (fun _ _ _ _ _ _ us hl => match us, hl with | [_, _], _ => rfl) (fun cdv A outer s H E hr tk =>
    (s_cons (by exact (d_set (i := 2) (by first | exact List.not_mem_nil | exact nmem (by decide)) sc.nd rfl (by first | exact Or.inl rfl | exact Or.inr rfl) (by exact (d_if (by exact (d_tlt (by exact (v 1)) (by exact (d_len rfl T.n_len (by exact (by exact (a_cons (by exact (v 0)) a_nil))))))) (by exact (d_ix (by exact (v 0)) (by exact (v 1)))) d_int))))
      (s_one (by exact (d_ret (by exact (d_cel (by exact (a_cons (by exact (d_max rfl rfl T.n_max (by exact (by exact (a_cons d_int (by exact (a_cons (by exact (d_sub (by exact (d_abs rfl T.n_abs (by exact (by exact (a_cons (by exact (v 2)) a_nil))))) (by exact (d_pow d_int d_int)))) a_nil))))))) (by exact (a_cons (by exact (d_mod (by exact (d_int1 rfl T.n_int (by exact (by exact (a_cons (by exact (d_add (by exact (d_add (by exact (d_mulI (by exact (v 2)) d_int)) (by exact (d_mulI (by exact (v 1)) d_int)))) d_int)) a_nil))))) (by exact (d_add (by exact (d_pow d_int d_int)) d_int)))) (by exact (a_cons d_int a_nil)))))))))))))
def f__law_purse : FN := fnM 3 m__law_purse
abbrev s__law_coin : Stmt := top 13
theorem sc__law_coin : FnScope ["purse", "many", "drawn", "stirred"] ["purse", "many"] (defScope s__law_coin) := ⟨rfl, rfl, rfl, by decide +kernel, rfl, by decide +kernel, by decide +kernel⟩
def m__law_coin : MS := (mSeq (mIfS (mTb (mBin fGt (mBin fIx (mVar 0) (mC (.int 0))) (mC (.int 0)))) (mSeq (mAsg (mBin fMod (mCB fInt (mCons (mBin fIx (mVar 0) (mC (.int 0))) mNil)) (mVar 1)) (oName 2)) (mSeq (mAsg (mBin fDiv (mBin fIx (mVar 0) (mC (.int 0))) (mVar 1)) (oSub (mVar 0) (mC (.int 0)))) (mRet (mVar 2)))) mNext) (mSeq (mAsg (mBin fAdd (mBin fIx (mVar 0) (mC (.int 2))) (mC (.int 1))) (oSub (mVar 0) (mC (.int 2)))) (mSeq (mAsg (mBin fMod (mBin fPow (mCB fInt (mCons (mBin fAdd (mBin fIx (mVar 0) (mC (.int 1))) (mBin fMul (mC (.int 2038074743)) (mBin fIx (mVar 0) (mC (.int 2))))) mNil)) (mC (.int 3))) (mBin fAdd (mBin fPow (mC (.int 10)) (mC (.int 25))) (mC (.int 13)))) (oName 3)) (mSeq (mAsg (mBin fMod (mBin fPow (mCB fInt (mCons (mBin fAdd (mVar 3) (mBin fMul (mC (.int 982451653)) (mBin fIx (mVar 0) (mC (.int 2))))) mNil)) (mC (.int 2))) (mBin fAdd (mBin fPow (mC (.int 10)) (mC (.int 24))) (mC (.int 7)))) (oName 3)) (mRet (mBin fMod (mCB fInt (mCons (mBin fDiv (mVar 3) (mC (.int 1024))) mNil)) (mVar 1)))))))
theorem F__law_coin (T : Txt K mg) (D : ∃ fd, FunD K "_law_coin" "_law_coin" (defArgs s__law_coin) (defBody s__law_coin) (defScope s__law_coin) [] [] (He.ga K "_law_coin") fd) : Fnc P w K mg base "_law_coin" 1 2 (fnM 4 m__law_coin) := by
  have sc := sc__law_coin
  exact fnc_mk (ps := ["purse", "many"]) (N := ["purse", "many", "drawn", "stirred"]) (k := 0) (m := m__law_coin) T.g__law_coin D sc (fun _ _ _ _ _ _ us hl => match us, hl with | [_, _], _ => rfl) (fun cdv A outer s H E hr tk =>
    (s_cons (by exact (d_ifS (by exact (d_tgt (by exact (d_ix (by exact (v 0)) d_int)) d_int)) (s_cons (by exact (d_set (i := 2) (by first | exact List.not_mem_nil | exact nmem (by decide)) sc.nd rfl (by first | exact Or.inl rfl | exact Or.inr rfl) (by exact (d_mod (by exact (d_int1 rfl T.n_int (by exact (by exact (a_cons (by exact (d_ix (by exact (v 0)) d_int)) a_nil))))) (by exact (v 1))))))
      (s_cons (by exact (d_asg (by exact (d_fdiv (by exact (d_ix (by exact (v 0)) d_int)) (by exact (v 1)))) (by exact (g_sub (by exact (v 0)) d_int))))
      (s_one (by exact (d_ret (by exact (v 2))))))) s_nil))
      (s_cons (by exact (d_asg (by exact (d_add (by exact (d_ix (by exact (v 0)) d_int)) d_int)) (by exact (g_sub (by exact (v 0)) d_int))))
      (s_cons (by exact (d_set (i := 3) (by first | exact List.not_mem_nil | exact nmem (by decide)) sc.nd rfl (by first | exact Or.inl rfl | exact Or.inr rfl) (by exact (d_mod (by exact (d_pow (by exact (d_int1 rfl T.n_int (by exact (by exact (a_cons (by exact (d_add (by exact (d_ix (by exact (v 0)) d_int)) (by exact (d_mulI d_int (by exact (d_ix (by exact (v 0)) d_int)))))) a_nil))))) d_int)) (by exact (d_add (by exact (d_pow d_int d_int)) d_int))))))
      (s_cons (by exact (d_set (i := 3) (by first | exact List.not_mem_nil | exact nmem (by decide)) sc.nd rfl (by first | exact Or.inl rfl | exact Or.inr rfl) (by exact (d_mod (by exact (d_pow (by exact (d_int1 rfl T.n_int (by exact (by exact (a_cons (by exact (d_add (by exact (v 3)) (by exact (d_mulI d_int (by exact (d_ix (by exact (v 0)) d_int)))))) a_nil))))) d_int)) (by exact (d_add (by exact (d_pow d_int d_int)) d_int))))))
      (s_one (by exact (d_ret (by exact (d_mod (by exact (d_int1 rfl T.n_int (by exact (by exact (a_cons (by exact (d_fdiv (by exact (v 3)) d_int)) a_nil))))) (by exact (v 1))))))))))))
def f__law_coin : FN := fnM 4 m__law_coin
abbrev s_is_name : Stmt := top 6
theorem sc_is_name : FnScope ["name", "sign"] ["name"] (defScope s_is_name) := ⟨rfl, rfl, rfl, by decide +kernel, rfl, by decide +kernel, by decide +kernel⟩
def m_is_name : MS := (mRet (mAnd (mChain fLt fLt (mC (.int 0)) (mCB fLen (mCons (mVar 0) mNil)) (mC (.int 9))) (mCB fAll (mCons (mLc (mIt (mVar 0)) (oName 1) mYes (mBin (fIn false) (mVar 1) (mC (.str "abcdefghijklmnopqrstuvwxyz"))) [1]) mNil))))
theorem F_is_name (T : Txt K mg) (D : ∃ fd, FunD K "is_name" "is_name" (defArgs s_is_name) (defBody s_is_name) (defScope s_is_name) [] [] (He.ga K "is_name") fd) : Fnc P w K mg base "is_name" 1 1 (fnM 2 m_is_name) := by
  have sc := sc_is_name
  exact fnc_mk (ps := ["name"]) (N := ["name", "sign"]) (k := 0) (m := m_is_name) T.g_is_name D sc (fun _ _ _ _ _ _ us hl => match us, hl with | [_], _ => rfl) (fun cdv A outer s H E hr tk =>
    (s_one (by exact (d_ret (by exact (by exact (d_and (by exact (d_ltlt d_int (by exact (d_len rfl T.n_len (by exact (by exact (a_cons (by exact (v 0)) a_nil))))) d_int)) (d_one (by exact (d_all rfl rfl T.n_all (by exact (by exact (a_cons (by exact (d_lc (own := [("sign", 1)]) rfl rfl sc.nd (by exact (i_any (by exact (v 0)))) (blkOk_by (N := ["name", "sign"]) (sc := defScope s_is_name) (own := [("sign", 1)]) (by decide +kernel)) (fun _ _ _ _ _ => (by exact (c_name (i := 1) sc.nd rfl (by first | exact Or.inl rfl | exact Or.inr rfl) (by first | exact Or.inl rfl | exact Or.inr rfl) (by decide)))) (fun _ _ _ _ _ => ts_nil) (fun _ _ _ _ _ => (by exact (d_isin (by exact (v 1)) (by exact (d_gstrE (by decide) rfl T.c_LETTERS)) (hu65 hr)))))) a_nil)))))))))))))
def f_is_name : FN := fnM 2 m_is_name
abbrev s_show_told : Stmt := top 8
theorem sc_show_told : FnScope ["told", "word", "name"] ["told"] (defScope s_show_told) := ⟨rfl, rfl, rfl, by decide +kernel, rfl, by decide +kernel, by decide +kernel⟩
def m_show_told : MS := (mSeq (mIfS (mTb (mBin fNe (mBin fIx (mVar 0) (mC (.int 0))) (mC (.str "error")))) (mRet (mBin fIx (mVar 0) (mC (.int 0)))) mNext) (mRet (mBMc isTxt (txtF gJoin) (mC (.str " ")) (mCons (mLc (mIt (mBin fIx (mVar 0) (mC (.int 1)))) (oTup 2 (oCons (oName 1) (oCons (oName 2) oNil))) mYes (mJs [(mFmt (mVar 1)), (mC (.str " ")), (mFmt (mVar 2))] Str.empty) [1, 2]) mNil))))
theorem F_show_told (T : Txt K mg) (D : ∃ fd, FunD K "show_told" "show_told" (defArgs s_show_told) (defBody s_show_told) (defScope s_show_told) [] [] (He.ga K "show_told") fd) : Fnc P w K mg base "show_told" 1 1 (fnM 3 m_show_told) := by
  have sc := sc_show_told
  exact fnc_mk (ps := ["told"]) (N := ["told", "word", "name"]) (k := 0) (m := m_show_told) T.g_show_told D sc (fun _ _ _ _ _ _ us hl => match us, hl with | [_], _ => rfl) (fun cdv A outer s H E hr tk =>
    (s_cons (by exact (d_ifS (by exact (d_tne (by exact (d_ix (by exact (v 0)) d_int)) d_str (hu64 hr))) (s_one (by exact (d_ret (by exact (d_ix (by exact (v 0)) d_int))))) s_nil))
      (s_one (by exact (d_ret (by exact (d_join d_str (by exact (by exact (a_cons (by exact (d_lc (own := [("word", 1), ("name", 2)]) rfl rfl sc.nd (by exact (i_any (by exact (d_ix (by exact (v 0)) d_int)))) (blkOk_by (N := ["told", "word", "name"]) (sc := defScope s_show_told) (own := [("word", 1), ("name", 2)]) (by decide +kernel)) (fun _ _ _ _ _ => (by exact (c_tup rfl (cs_cons still_name (by exact (c_name (i := 1) sc.nd rfl (by first | exact Or.inl rfl | exact Or.inr rfl) (by first | exact Or.inl rfl | exact Or.inr rfl) (by decide))) (cs_cons still_name (by exact (c_name (i := 2) sc.nd rfl (by first | exact Or.inl rfl | exact Or.inr rfl) (by first | exact Or.inl rfl | exact Or.inr rfl) (by decide))) cs_nil))))) (fun _ _ _ _ _ => ts_nil) (fun _ _ _ _ _ => (by exact (d_js (ms := [(mFmt (mVar 1)), (mC (.str " ")), (mFmt (mVar 2))]) (.cons (by exact (d_fmt (by exact (v 1)))) (.cons d_str (.cons (by exact (d_fmt (by exact (v 2)))) .nil)))))))) a_nil))))))))))
def f_show_told : FN := fnM 3 m_show_told
abbrev s_read_told : Stmt := top 10
theorem sc_read_told : FnScope ["text", "pieces", "words", "names", "found", "name", "word"] ["text"] (defScope s_read_told) := ⟨rfl, rfl, rfl, by decide +kernel, rfl, by decide +kernel, by decide +kernel⟩
def m_read_told : MS := (mSeq (mIfS (mTb (mBin (fIn false) (mVar 0) (mTup (mCons (mC (.str "ended")) (mCons (mC (.str "left")) mNil))))) (mRet (mTup (mCons (mVar 0) mNil))) mNext) (mSeq (mAsg (mBMc isTxt (fSplit false) (mVar 0) (mCons (mC (.str " ")) mNil)) (oName 1)) (mSeq (mPar 2 3 (mSt (mVar 1) none (some 2)) (mSt (mVar 1) (some 1) (some 2))) (mSeq (mIfS (mOrT (mTb (mBin fNe (mCB fLen (mCons (mVar 2) mNil)) (mCB fLen (mCons (mVar 3) mNil)))) (mOrT (mTb (mBin fNe (mBin fIx (mVar 2) (mC (.int 0))) (mC (.str "told")))) (mNotT (mTru (mCB fAll (mCons (mLc (mIt (mVar 3)) (oName 5) mYes (mCall 1 f_is_name (mCons (mVar 5) mNil)) [5]) mNil)))))) (mRaise "Unreadable" (mVar 0)) mNext) (mSeq (mIfS (mNotT (mTru (mCB fAll (mCons (mLc (mIt (mSl (mVar 2) (mSo (mC (.int 1))) mNo)) (oName 6) mYes (mBin (fIn false) (mVar 6) (mTup (mCons (mC (.str "during")) (mCons (mC (.str "from")) mNil)))) [6]) mNil)))) (mRaise "Unreadable" (mVar 0)) mNext) (mSeq (mAsg (mTup (mCons (mC (.str "error")) (mCons (mZip (mVar 2) (mVar 3)) mNil))) (oName 4)) (mSeq (mIfS (mTb (mBin fNe (mCall 1 f_show_told (mCons (mVar 4) mNil)) (mVar 0))) (mRaise "Unreadable" (mVar 0)) mNext) (mRet (mVar 4)))))))))
theorem F_read_told (T : Txt K mg) (D : ∃ fd, FunD K "read_told" "read_told" (defArgs s_read_told) (defBody s_read_told) (defScope s_read_told) [] [] (He.ga K "read_told") fd) (h_is_name : Fnc P w K mg base "is_name" 1 1 f_is_name) (h_show_told : Fnc P w K mg base "show_told" 1 1 f_show_told) (hI : Ini P w K mg base "TellError") : Fnc P w K mg base "read_told" 3 1 (fnM 7 m_read_told) := by
  have sc := sc_read_told
  exact fnc_mk (ps := ["text"]) (N := ["text", "pieces", "words", "names", "found", "name", "word"]) (k := 2) (m := m_read_told) T.g_read_told D sc (fun _ _ _ _ _ _ us hl => match us, hl with | [_], _ => rfl) (fun cdv A outer s H E hr tk =>
    (s_cons (by exact (d_ifS (by exact (d_tin (by exact (v 0)) (by exact (d_tup (by exact (a_cons d_str (by exact (a_cons d_str a_nil)))))) (hu65 hr))) (s_one (by exact (d_ret (by exact (d_tup (by exact (a_cons (by exact (v 0)) a_nil))))))) s_nil))
      (s_cons (by exact (d_set (i := 1) (by first | exact List.not_mem_nil | exact nmem (by decide)) sc.nd rfl (by first | exact Or.inl rfl | exact Or.inr rfl) (by exact (d_split false (by exact (v 0)) (by exact (by exact (a_cons d_str a_nil)))))))
      (s_cons (by exact (d_par (i := 2) (j := 3) (by first | exact List.not_mem_nil | exact nmem (by decide)) (by first | exact List.not_mem_nil | exact nmem (by decide)) rfl sc.nd rfl rfl (by decide) rfl rfl (by exact (d_st (by decide) (by exact (v 1)) po_no)) (by exact (d_st (by decide) (by exact (v 1)) po_int)) (by rfl)))
      (s_cons (by exact (d_ifS (by exact (L2.PW.pt (by exact (w_or (by exact (d_tne (by exact (d_len rfl T.n_len (by exact (by exact (a_cons (by exact (v 2)) a_nil))))) (by exact (d_len rfl T.n_len (by exact (by exact (a_cons (by exact (v 3)) a_nil))))) (hu64 hr))) (by exact (w_or (by exact (d_tne (by exact (d_ix (by exact (v 2)) d_int)) d_str (hu64 hr))) (w_or1 (by exact (d_tnot (by exact (d_truth (by exact (d_all rfl rfl T.n_all (by exact (by exact (a_cons (by exact (d_lc (own := [("name", 5)]) rfl rfl sc.nd (by exact (i_any (by exact (v 3)))) (blkOk_by (N := ["text", "pieces", "words", "names", "found", "name", "word"]) (sc := defScope s_read_told) (own := [("name", 5)]) (by decide +kernel)) (fun _ _ _ _ _ => (by exact (c_name (i := 5) sc.nd rfl (by first | exact Or.inl rfl | exact Or.inr rfl) (by first | exact Or.inl rfl | exact Or.inr rfl) (by decide)))) (fun _ _ _ _ _ => ts_nil) (fun _ _ _ _ _ => (by exact (c_call h_is_name (hr.mono (by decide)) takesW0 (by exact (by exact (a_cons (by exact (v 5)) a_nil)))))))) a_nil)))))))))))))))) (s_one (by exact (d_raise (C := "Unreadable") rfl T.x_Unreadable hI (hr.mono (by decide)) tk rfl T.g_Unreadable (by exact (v 0))))) s_nil))
      (s_cons (by exact (d_ifS (by exact (d_tnot (by exact (d_truth (by exact (d_all rfl rfl T.n_all (by exact (by exact (a_cons (by exact (d_lc (own := [("word", 6)]) rfl rfl sc.nd (by exact (i_any (by exact (d_sl (by exact (v 2)) (by exact (o_some d_int)) o_none)))) (blkOk_by (N := ["text", "pieces", "words", "names", "found", "name", "word"]) (sc := defScope s_read_told) (own := [("word", 6)]) (by decide +kernel)) (fun _ _ _ _ _ => (by exact (c_name (i := 6) sc.nd rfl (by first | exact Or.inl rfl | exact Or.inr rfl) (by first | exact Or.inl rfl | exact Or.inr rfl) (by decide)))) (fun _ _ _ _ _ => ts_nil) (fun _ _ _ _ _ => (by exact (d_isin (by exact (v 6)) (by exact (d_tup (by exact (a_cons d_str (by exact (a_cons d_str a_nil)))))) (hu65 hr)))))) a_nil))))))))) (s_one (by exact (d_raise (C := "Unreadable") rfl T.x_Unreadable hI (hr.mono (by decide)) tk rfl T.g_Unreadable (by exact (v 0))))) s_nil))
      (s_cons (by exact (d_set (i := 4) (by first | exact List.not_mem_nil | exact nmem (by decide)) sc.nd rfl (by first | exact Or.inl rfl | exact Or.inr rfl) (by exact (d_tup (by exact (a_cons d_str (by exact (a_cons (by exact (d_zip rfl rfl T.n_list rfl T.n_zip (by exact (v 2)) (by exact (v 3)))) a_nil))))))))
      (s_cons (by exact (d_ifS (by exact (d_tne (by exact (c_call h_show_told (hr.mono (by decide)) tk (by exact (by exact (a_cons (by exact (v 4)) a_nil))))) (by exact (v 0)) (hu64 hr))) (s_one (by exact (d_raise (C := "Unreadable") rfl T.x_Unreadable hI (hr.mono (by decide)) tk rfl T.g_Unreadable (by exact (v 0))))) s_nil))
      (s_one (by exact (d_ret (by exact (v 4)))))))))))))
theorem FK_read_told (T : Txt K mg) (D : ∃ fd, FunD K "read_told" "read_told" (defArgs s_read_told) (defBody s_read_told) (defScope s_read_told) [] [] (He.ga K "read_told") fd) (h_is_name : Fnc P w K mg base "is_name" 1 1 f_is_name) (h_show_told : Fnc P w K mg base "show_told" 1 1 f_show_told) (hI : Ini P w K mg base "TellError") : FncK P w K mg base "read_told" 3 ["text"] (fnM 7 m_read_told) := by
  have sc := sc_read_told
  exact fnck_mk (ps := ["text"]) (N := ["text", "pieces", "words", "names", "found", "name", "word"]) (k := 2) (m := m_read_told) T.g_read_told D sc (fun _ _ _ _ _ _ us hl => match us, hl with | [_], _ => rfl) (fun _ _ _ _ _ _ us hl => match us, hl with | [_], _ => rfl) (fun cdv A outer s H E hr tk =>
    (s_cons (by exact (d_ifS (by exact (d_tin (by exact (v 0)) (by exact (d_tup (by exact (a_cons d_str (by exact (a_cons d_str a_nil)))))) (hu65 hr))) (s_one (by exact (d_ret (by exact (d_tup (by exact (a_cons (by exact (v 0)) a_nil))))))) s_nil))
      (s_cons (by exact (d_set (i := 1) (by first | exact List.not_mem_nil | exact nmem (by decide)) sc.nd rfl (by first | exact Or.inl rfl | exact Or.inr rfl) (by exact (d_split false (by exact (v 0)) (by exact (by exact (a_cons d_str a_nil)))))))
      (s_cons (by exact (d_par (i := 2) (j := 3) (by first | exact List.not_mem_nil | exact nmem (by decide)) (by first | exact List.not_mem_nil | exact nmem (by decide)) rfl sc.nd rfl rfl (by decide) rfl rfl (by exact (d_st (by decide) (by exact (v 1)) po_no)) (by exact (d_st (by decide) (by exact (v 1)) po_int)) (by rfl)))
      (s_cons (by exact (d_ifS (by exact (L2.PW.pt (by exact (w_or (by exact (d_tne (by exact (d_len rfl T.n_len (by exact (by exact (a_cons (by exact (v 2)) a_nil))))) (by exact (d_len rfl T.n_len (by exact (by exact (a_cons (by exact (v 3)) a_nil))))) (hu64 hr))) (by exact (w_or (by exact (d_tne (by exact (d_ix (by exact (v 2)) d_int)) d_str (hu64 hr))) (w_or1 (by exact (d_tnot (by exact (d_truth (by exact (d_all rfl rfl T.n_all (by exact (by exact (a_cons (by exact (d_lc (own := [("name", 5)]) rfl rfl sc.nd (by exact (i_any (by exact (v 3)))) (blkOk_by (N := ["text", "pieces", "words", "names", "found", "name", "word"]) (sc := defScope s_read_told) (own := [("name", 5)]) (by decide +kernel)) (fun _ _ _ _ _ => (by exact (c_name (i := 5) sc.nd rfl (by first | exact Or.inl rfl | exact Or.inr rfl) (by first | exact Or.inl rfl | exact Or.inr rfl) (by decide)))) (fun _ _ _ _ _ => ts_nil) (fun _ _ _ _ _ => (by exact (c_call h_is_name (hr.mono (by decide)) takesW0 (by exact (by exact (a_cons (by exact (v 5)) a_nil)))))))) a_nil)))))))))))))))) (s_one (by exact (d_raise (C := "Unreadable") rfl T.x_Unreadable hI (hr.mono (by decide)) tk rfl T.g_Unreadable (by exact (v 0))))) s_nil))
      (s_cons (by exact (d_ifS (by exact (d_tnot (by exact (d_truth (by exact (d_all rfl rfl T.n_all (by exact (by exact (a_cons (by exact (d_lc (own := [("word", 6)]) rfl rfl sc.nd (by exact (i_any (by exact (d_sl (by exact (v 2)) (by exact (o_some d_int)) o_none)))) (blkOk_by (N := ["text", "pieces", "words", "names", "found", "name", "word"]) (sc := defScope s_read_told) (own := [("word", 6)]) (by decide +kernel)) (fun _ _ _ _ _ => (by exact (c_name (i := 6) sc.nd rfl (by first | exact Or.inl rfl | exact Or.inr rfl) (by first | exact Or.inl rfl | exact Or.inr rfl) (by decide)))) (fun _ _ _ _ _ => ts_nil) (fun _ _ _ _ _ => (by exact (d_isin (by exact (v 6)) (by exact (d_tup (by exact (a_cons d_str (by exact (a_cons d_str a_nil)))))) (hu65 hr)))))) a_nil))))))))) (s_one (by exact (d_raise (C := "Unreadable") rfl T.x_Unreadable hI (hr.mono (by decide)) tk rfl T.g_Unreadable (by exact (v 0))))) s_nil))
      (s_cons (by exact (d_set (i := 4) (by first | exact List.not_mem_nil | exact nmem (by decide)) sc.nd rfl (by first | exact Or.inl rfl | exact Or.inr rfl) (by exact (d_tup (by exact (a_cons d_str (by exact (a_cons (by exact (d_zip rfl rfl T.n_list rfl T.n_zip (by exact (v 2)) (by exact (v 3)))) a_nil))))))))
      (s_cons (by exact (d_ifS (by exact (d_tne (by exact (c_call h_show_told (hr.mono (by decide)) tk (by exact (by exact (a_cons (by exact (v 4)) a_nil))))) (by exact (v 0)) (hu64 hr))) (s_one (by exact (d_raise (C := "Unreadable") rfl T.x_Unreadable hI (hr.mono (by decide)) tk rfl T.g_Unreadable (by exact (v 0))))) s_nil))
      (s_one (by exact (d_ret (by exact (v 4)))))))))))))
def f_read_told : FN := fnM 7 m_read_told
abbrev s__law_menu : Stmt := top 14
theorem sc__law_menu : FnScope ["purse", "many", "letters", "way", "words_here", "stem", "start", "tail", "turn", "rank"] ["purse", "many"] (defScope s__law_menu) := ⟨rfl, rfl, rfl, by decide +kernel, rfl, by decide +kernel, by decide +kernel⟩
def m__law_menu : MS := (mSeq (mAsg (mTup (mCons (mC (.str "abcdefghijklmnopqrstuvwxyz")) (mCons (mCall 2 f__law_coin (mCons (mVar 0) (mCons (mC (.int 3)) mNil))) mNil))) (oTup 2 (oCons (oName 2) (oCons (oName 3) oNil)))) (mSeq (mAsg (mLst (mCons (mC (.str "step")) (mCons (mC (.str "load")) (mCons (mC (.str "during")) (mCons (mC (.str "told")) (mCons (mC (.str "from")) (mCons (mC (.str "guard")) (mCons (mC (.str "last")) (mCons (mC (.str "on")) (mCons (mC (.str "a")) (mCons (mC (.str "b")) (mCons (mC (.str "again")) (mCons (mC (.str "leave")) (mCons (mC (.str "ended")) mNil)))))))))))))) (oName 4)) (mSeq (mAsg (mBMc isTxt (txtF gJoin) (mC (.str "")) (mCons (mLc (mRg1 (mC (.int 8))) (oName 8) mYes (mBin fIx (mVar 2) (mCall 2 f__law_coin (mCons (mVar 0) (mCons (mC (.int 26)) mNil)))) [8]) mNil)) (oName 5)) (mSeq (mIfS (mAndT (mTb (mBin fEq (mVar 3) (mC (.int 0)))) (mTb (mBin fLt (mVar 1) (mC (.int 14))))) (mSeq (mAsg (mCall 2 f__law_coin (mCons (mVar 0) (mCons (mC (.int 13)) mNil))) (oName 6)) (mRet (mLc (mRg1 (mVar 1)) (oName 9) mYes (mBin fIx (mVar 4) (mBin fMod (mCB fInt (mCons (mBin fAdd (mVar 6) (mBin fMul (mC (.int 5)) (mVar 9))) mNil)) (mC (.int 13)))) [9]))) mNext) (mSeq (mIfS (mAndT (mTb (mBin fEq (mVar 3) (mC (.int 1)))) (mTb (mBin fLt (mVar 1) (mC (.int 9))))) (mSeq (mAsg (mCall 2 f__law_coin (mCons (mVar 0) (mCons (mBin fSub (mC (.int 9)) (mVar 1)) mNil))) (oName 6)) (mRet (mLc (mRg1 (mVar 1)) (oName 9) mYes (mSl (mVar 5) mNo (mSo (mBin fAdd (mBin fAdd (mVar 6) (mVar 9)) (mC (.int 1))))) [9]))) mNext) (mSeq (mAsg (mTup (mCons (mCall 2 f__law_coin (mCons (mVar 0) (mCons (mC (.int 26)) mNil))) (mCons (mIf (mTb (mBin fLt (mVar 1) (mC (.int 27)))) (mSl (mVar 5) mNo (mSo (mCall 2 f__law_coin (mCons (mVar 0) (mCons (mC (.int 8)) mNil))))) (mC (.str ""))) mNil))) (oTup 2 (oCons (oName 6) (oCons (oName 7) oNil)))) (mRet (mLc (mRg1 (mVar 1)) (oName 9) mYes (mBin fAdd (mBin fAdd (mBin fIx (mVar 2) (mBin fMod (mCB fInt (mCons (mBin fAdd (mVar 6) (mVar 9)) mNil)) (mC (.int 26)))) (mSl (mVar 5) mNo (mSo (mBin fDiv (mVar 9) (mC (.int 26)))))) (mVar 7)) [9]))))))))
theorem F__law_menu (T : Txt K mg) (D : ∃ fd, FunD K "_law_menu" "_law_menu" (defArgs s__law_menu) (defBody s__law_menu) (defScope s__law_menu) [] [] (He.ga K "_law_menu") fd) (h__law_coin : Fnc P w K mg base "_law_coin" 1 2 f__law_coin) : Fnc P w K mg base "_law_menu" 2 2 (fnM 10 m__law_menu) := by
  have sc := sc__law_menu
  exact fnc_mk (ps := ["purse", "many"]) (N := ["purse", "many", "letters", "way", "words_here", "stem", "start", "tail", "turn", "rank"]) (k := 1) (m := m__law_menu) T.g__law_menu D sc (fun _ _ _ _ _ _ us hl => match us, hl with | [_, _], _ => rfl) (fun cdv A outer s H E hr tk =>
    (s_cons (by exact (d_asg (d_tup (a_cons d_str (a_cons (by exact (c_call h__law_coin (hr.mono (by decide)) tk (by exact (by exact (a_cons (by exact (v 0)) (by exact (a_cons d_int a_nil))))))) a_nil))) (by exact (g_tup rfl (gs_cons (by exact (g_name (i := 2) (by first | exact List.not_mem_nil | exact nmem (by decide)) sc.nd rfl (by first | exact Or.inl rfl | exact Or.inr rfl))) (gs_cons (by exact (g_name (i := 3) (by first | exact List.not_mem_nil | exact nmem (by decide)) sc.nd rfl (by first | exact Or.inl rfl | exact Or.inr rfl))) gs_nil))))))
      (s_cons (by exact (d_set (i := 4) (by first | exact List.not_mem_nil | exact nmem (by decide)) sc.nd rfl (by first | exact Or.inl rfl | exact Or.inr rfl) (by exact (d_lst (by exact (a_cons d_str (by exact (a_cons d_str (by exact (a_cons d_str (by exact (a_cons d_str (by exact (a_cons d_str (by exact (a_cons d_str (by exact (a_cons d_str (by exact (a_cons d_str (by exact (a_cons d_str (by exact (a_cons d_str (by exact (a_cons d_str (by exact (a_cons d_str (by exact (a_cons d_str a_nil))))))))))))))))))))))))))))))
      (s_cons (by exact (d_set (i := 5) (by first | exact List.not_mem_nil | exact nmem (by decide)) sc.nd rfl (by first | exact Or.inl rfl | exact Or.inr rfl) (by exact (d_join d_str (by exact (by exact (a_cons (by exact (d_lc (own := [("turn", 8)]) rfl rfl sc.nd (by exact (i_range1 rfl T.n_range d_int)) (blkOk_by (N := ["purse", "many", "letters", "way", "words_here", "stem", "start", "tail", "turn", "rank"]) (sc := defScope s__law_menu) (own := [("turn", 8)]) (by decide +kernel)) (fun _ _ _ _ _ => (by exact (c_name (i := 8) sc.nd rfl (by first | exact Or.inl rfl | exact Or.inr rfl) (by first | exact Or.inl rfl | exact Or.inr rfl) (by decide)))) (fun _ _ _ _ _ => ts_nil) (fun _ _ _ _ _ => (by exact (d_ix (by exact (v 2)) (by exact (c_call h__law_coin (hr.mono (by decide)) takesW0 (by exact (by exact (a_cons (by exact (v 0)) (by exact (a_cons d_int a_nil)))))))))))) a_nil)))))))
      (s_cons (by exact (d_ifS (by exact (L2.PW.pt (by exact (w_and (by exact (d_teq (by exact (v 3)) d_int (hu64 hr))) (w_and1 (by exact (d_tlt (by exact (v 1)) d_int))))))) (s_cons (by exact (d_set (i := 6) (by first | exact List.not_mem_nil | exact nmem (by decide)) sc.nd rfl (by first | exact Or.inl rfl | exact Or.inr rfl) (by exact (c_call h__law_coin (hr.mono (by decide)) tk (by exact (by exact (a_cons (by exact (v 0)) (by exact (a_cons d_int a_nil)))))))))
      (s_one (by exact (d_ret (by exact (d_lc (own := [("rank", 9)]) rfl rfl sc.nd (by exact (i_range1 rfl T.n_range (by exact (v 1)))) (blkOk_by (N := ["purse", "many", "letters", "way", "words_here", "stem", "start", "tail", "turn", "rank"]) (sc := defScope s__law_menu) (own := [("rank", 9)]) (by decide +kernel)) (fun _ _ _ _ _ => (by exact (c_name (i := 9) sc.nd rfl (by first | exact Or.inl rfl | exact Or.inr rfl) (by first | exact Or.inl rfl | exact Or.inr rfl) (by decide)))) (fun _ _ _ _ _ => ts_nil) (fun _ _ _ _ _ => (by exact (d_ix (by exact (v 4)) (by exact (d_mod (by exact (d_int1 rfl T.n_int (by exact (by exact (a_cons (by exact (d_add (by exact (v 6)) (by exact (d_mulI d_int (by exact (v 9)))))) a_nil))))) d_int))))))))))) s_nil))
      (s_cons (by exact (d_ifS (by exact (L2.PW.pt (by exact (w_and (by exact (d_teq (by exact (v 3)) d_int (hu64 hr))) (w_and1 (by exact (d_tlt (by exact (v 1)) d_int))))))) (s_cons (by exact (d_set (i := 6) (by first | exact List.not_mem_nil | exact nmem (by decide)) sc.nd rfl (by first | exact Or.inl rfl | exact Or.inr rfl) (by exact (c_call h__law_coin (hr.mono (by decide)) tk (by exact (by exact (a_cons (by exact (v 0)) (by exact (a_cons (by exact (d_sub d_int (by exact (v 1)))) a_nil)))))))))
      (s_one (by exact (d_ret (by exact (d_lc (own := [("rank", 9)]) rfl rfl sc.nd (by exact (i_range1 rfl T.n_range (by exact (v 1)))) (blkOk_by (N := ["purse", "many", "letters", "way", "words_here", "stem", "start", "tail", "turn", "rank"]) (sc := defScope s__law_menu) (own := [("rank", 9)]) (by decide +kernel)) (fun _ _ _ _ _ => (by exact (c_name (i := 9) sc.nd rfl (by first | exact Or.inl rfl | exact Or.inr rfl) (by first | exact Or.inl rfl | exact Or.inr rfl) (by decide)))) (fun _ _ _ _ _ => ts_nil) (fun _ _ _ _ _ => (by exact (d_sl (by exact (v 5)) o_none (by exact (o_some (by exact (d_add (by exact (d_add (by exact (v 6)) (by exact (v 9)))) d_int))))))))))))) s_nil))
      (s_cons (by exact (d_asg (d_tup (a_cons (by exact (c_call h__law_coin (hr.mono (by decide)) tk (by exact (by exact (a_cons (by exact (v 0)) (by exact (a_cons d_int a_nil))))))) (a_cons (by exact (d_if (by exact (d_tlt (by exact (v 1)) d_int)) (by exact (d_sl (by exact (v 5)) o_none (by exact (o_some (by exact (c_call h__law_coin (hr.mono (by decide)) tk (by exact (by exact (a_cons (by exact (v 0)) (by exact (a_cons d_int a_nil))))))))))) d_str)) a_nil))) (by exact (g_tup rfl (gs_cons (by exact (g_name (i := 6) (by first | exact List.not_mem_nil | exact nmem (by decide)) sc.nd rfl (by first | exact Or.inl rfl | exact Or.inr rfl))) (gs_cons (by exact (g_name (i := 7) (by first | exact List.not_mem_nil | exact nmem (by decide)) sc.nd rfl (by first | exact Or.inl rfl | exact Or.inr rfl))) gs_nil))))))
      (s_one (by exact (d_ret (by exact (d_lc (own := [("rank", 9)]) rfl rfl sc.nd (by exact (i_range1 rfl T.n_range (by exact (v 1)))) (blkOk_by (N := ["purse", "many", "letters", "way", "words_here", "stem", "start", "tail", "turn", "rank"]) (sc := defScope s__law_menu) (own := [("rank", 9)]) (by decide +kernel)) (fun _ _ _ _ _ => (by exact (c_name (i := 9) sc.nd rfl (by first | exact Or.inl rfl | exact Or.inr rfl) (by first | exact Or.inl rfl | exact Or.inr rfl) (by decide)))) (fun _ _ _ _ _ => ts_nil) (fun _ _ _ _ _ => (by exact (d_add (by exact (d_add (by exact (d_ix (by exact (v 2)) (by exact (d_mod (by exact (d_int1 rfl T.n_int (by exact (by exact (a_cons (by exact (d_add (by exact (v 6)) (by exact (v 9)))) a_nil))))) d_int)))) (by exact (d_sl (by exact (v 5)) o_none (by exact (o_some (by exact (d_fdiv (by exact (v 9)) d_int)))))))) (by exact (v 7)))))))))))))))))
def f__law_menu : FN := fnM 10 m__law_menu
abbrev s__law_is_title : Stmt := top 15
theorem sc__law_is_title : FnScope ["wording", "letters", "sign"] ["wording"] (defScope s__law_is_title) := ⟨rfl, rfl, rfl, by decide +kernel, rfl, by decide +kernel, by decide +kernel⟩
def m__law_is_title : MS := (mSeq (mAsg (mC (.str "abcdefghijklmnopqrstuvwxyz")) (oName 1)) (mRet (mAnd (mChain fLt fLt (mC (.int 0)) (mCB fLen (mCons (mVar 0) mNil)) (mC (.int 9))) (mBin fEq (mLc (mIt (mVar 0)) (oName 2) (mTb (mBin (fIn true) (mVar 2) (mVar 1))) (mVar 2) [2]) (mLst mNil)))))
theorem F__law_is_title (T : Txt K mg) (D : ∃ fd, FunD K "_law_is_title" "_law_is_title" (defArgs s__law_is_title) (defBody s__law_is_title) (defScope s__law_is_title) [] [] (He.ga K "_law_is_title") fd) : Fnc P w K mg base "_law_is_title" 1 1 (fnM 3 m__law_is_title) := by
  have sc := sc__law_is_title
  exact fnc_mk (ps := ["wording"]) (N := ["wording", "letters", "sign"]) (k := 0) (m := m__law_is_title) T.g__law_is_title D sc (fun _ _ _ _ _ _ us hl => match us, hl with | [_], _ => rfl) (fun cdv A outer s H E hr tk =>
    (s_cons (by exact (d_set (i := 1) (by first | exact List.not_mem_nil | exact nmem (by decide)) sc.nd rfl (by first | exact Or.inl rfl | exact Or.inr rfl) d_str))
      (s_one (by exact (d_ret (by exact (by exact (d_and (by exact (d_ltlt d_int (by exact (d_len rfl T.n_len (by exact (by exact (a_cons (by exact (v 0)) a_nil))))) d_int)) (d_one (by exact (d_eq (by exact (d_lc (own := [("sign", 2)]) rfl rfl sc.nd (by exact (i_any (by exact (v 0)))) (blkOk_by (N := ["wording", "letters", "sign"]) (sc := defScope s__law_is_title) (own := [("sign", 2)]) (by decide +kernel)) (fun _ _ _ _ _ => (by exact (c_name (i := 2) sc.nd rfl (by first | exact Or.inl rfl | exact Or.inr rfl) (by first | exact Or.inl rfl | exact Or.inr rfl) (by decide)))) (fun _ _ _ _ _ => (ts_one (by exact (d_tnotin (by exact (v 2)) (by exact (v 1)) (hu65 hr))))) (fun _ _ _ _ _ => (by exact (v 2))))) (by exact (d_lst a_nil)) (hu64 hr))))))))))))
def f__law_is_title : FN := fnM 3 m__law_is_title
abbrev s__law_told_of : Stmt := top 16
theorem sc__law_told_of : FnScope ["wording", "pieces", "chain", "at", "words_here"] ["wording"] (defScope s__law_told_of) := ⟨rfl, rfl, rfl, by decide +kernel, rfl, by decide +kernel, by decide +kernel⟩
def m__law_told_of : MS := (mSeq (mIfS (mTb (mBin (fIn false) (mVar 0) (mTup (mCons (mC (.str "left")) (mCons (mC (.str "ended")) mNil))))) (mRet (mLst (mCons (mTup (mCons (mVar 0) mNil)) mNil))) mNext) (mSeq (mPar 1 2 (mBMc isTxt (fSplit false) (mVar 0) (mCons (mC (.str " ")) mNil)) (mCel mNil)) (mSeq (mIfS (mTb (mBin fEq (mBin fMod (mCB fInt (mCons (mCB fLen (mCons (mVar 1) mNil)) mNil)) (mC (.int 2))) (mC (.int 1)))) (mRet (mLst mNil)) mNext) (mSeq (mFor (mRg3 (mC (.int 0)) (mCB fLen (mCons (mVar 1) mNil)) (mC (.int 2))) (oName 3) (mSeq (mAsg (mIf (mTb (mBin fEq (mVar 3) (mC (.int 0)))) (mLst (mCons (mC (.str "told")) mNil)) (mLst (mCons (mC (.str "during")) (mCons (mC (.str "from")) mNil)))) (oName 4)) (mSeq (mIfS (mOrT (mTb (mBin (fIn true) (mBin fIx (mVar 1) (mVar 3)) (mVar 4))) (mNotT (mTru (mCall 1 f__law_is_title (mCons (mBin fIx (mVar 1) (mBin fAdd (mVar 3) (mC (.int 1)))) mNil))))) (mRet (mLst mNil)) mNext) (mEx (mBMc isCel (celF gAppend) (mVar 2) (mCons (mTup (mCons (mBin fIx (mVar 1) (mVar 3)) (mCons (mBin fIx (mVar 1) (mBin fAdd (mVar 3) (mC (.int 1)))) mNil))) mNil)))))) (mRet (mLst (mCons (mTup (mCons (mC (.str "error")) (mCons (mVar 2) mNil))) mNil)))))))
theorem F__law_told_of (T : Txt K mg) (D : ∃ fd, FunD K "_law_told_of" "_law_told_of" (defArgs s__law_told_of) (defBody s__law_told_of) (defScope s__law_told_of) [] [] (He.ga K "_law_told_of") fd) (h__law_is_title : Fnc P w K mg base "_law_is_title" 1 1 f__law_is_title) : Fnc P w K mg base "_law_told_of" 2 1 (fnM 5 m__law_told_of) := by
  have sc := sc__law_told_of
  exact fnc_mk (ps := ["wording"]) (N := ["wording", "pieces", "chain", "at", "words_here"]) (k := 1) (m := m__law_told_of) T.g__law_told_of D sc (fun _ _ _ _ _ _ us hl => match us, hl with | [_], _ => rfl) (fun cdv A outer s H E hr tk =>
    (s_cons (by exact (d_ifS (by exact (d_tin (by exact (v 0)) (by exact (d_tup (by exact (a_cons d_str (by exact (a_cons d_str a_nil)))))) (hu65 hr))) (s_one (by exact (d_ret (by exact (d_lst (by exact (a_cons (by exact (d_tup (by exact (a_cons (by exact (v 0)) a_nil)))) a_nil))))))) s_nil))
      (s_cons (by exact (d_par (i := 1) (j := 2) (by first | exact List.not_mem_nil | exact nmem (by decide)) (by first | exact List.not_mem_nil | exact nmem (by decide)) rfl sc.nd rfl rfl (by decide) rfl rfl (by exact (d_split false (by exact (v 0)) (by exact (by exact (a_cons d_str a_nil))))) (by exact (d_cel a_nil)) (by rfl)))
      (s_cons (by exact (d_ifS (by exact (d_teq (by exact (d_mod (by exact (d_int1 rfl T.n_int (by exact (by exact (a_cons (by exact (d_len rfl T.n_len (by exact (by exact (a_cons (by exact (v 1)) a_nil))))) a_nil))))) d_int)) d_int (hu64 hr))) (s_one (by exact (d_ret (by exact (d_lst a_nil))))) s_nil))
      (s_cons (by exact (d_for (passes_of rfl) rfl (by exact (i_range3 rfl T.n_range d_int (by exact (d_len rfl T.n_len (by exact (by exact (a_cons (by exact (v 1)) a_nil))))) d_int)) (by exact (g_name (i := 3) (by first | exact List.not_mem_nil | exact nmem (by decide)) sc.nd rfl (by first | exact Or.inl rfl | exact Or.inr rfl))) (s_cons (by exact (d_set (i := 4) (by first | exact List.not_mem_nil | exact nmem (by decide)) sc.nd rfl (by first | exact Or.inl rfl | exact Or.inr rfl) (by exact (d_if (by exact (d_teq (by exact (v 3)) d_int (hu64 hr))) (by exact (d_lst (by exact (a_cons d_str a_nil)))) (by exact (d_lst (by exact (a_cons d_str (by exact (a_cons d_str a_nil))))))))))
      (s_cons (by exact (d_ifS (by exact (L2.PW.pt (by exact (w_or (by exact (d_tnotin (by exact (d_ix (by exact (v 1)) (by exact (v 3)))) (by exact (v 4)) (hu65 hr))) (w_or1 (by exact (d_tnot (by exact (d_truth (by exact (c_call h__law_is_title (hr.mono (by decide)) tk (by exact (by exact (a_cons (by exact (d_ix (by exact (v 1)) (by exact (d_add (by exact (v 3)) d_int)))) a_nil)))))))))))))) (s_one (by exact (d_ret (by exact (d_lst a_nil))))) s_nil))
      (s_one (by exact (d_expr (by exact (d_append (by exact (v 2)) (by exact (by exact (a_cons (by exact (d_tup (by exact (a_cons (by exact (d_ix (by exact (v 1)) (by exact (v 3)))) (by exact (a_cons (by exact (d_ix (by exact (v 1)) (by exact (d_add (by exact (v 3)) d_int)))) a_nil)))))) a_nil))))))))))))
      (s_one (by exact (d_ret (by exact (d_lst (by exact (a_cons (by exact (d_tup (by exact (a_cons d_str (by exact (a_cons (by exact (v 2)) a_nil)))))) a_nil))))))))))))
def f__law_told_of : FN := sealF (fnM 5 m__law_told_of)
abbrev s__law_caught : Stmt := top 17
theorem sc__law_caught : FnScope ["wording", "way", "found", "told", "e", "odd"] ["wording", "way"] (defScope s__law_caught) := ⟨rfl, rfl, rfl, by decide +kernel, rfl, by decide +kernel, by decide +kernel⟩
def m__law_caught : MS := (mSeq (mAsg (mLst mNil) (oName 2)) (mSeq (mTry (fun C => decide (C = "Unreadable")) (fun _ => true) 4 (fun _ x => (mSeq (mAsg (mOr (mC (.bl false)) (mNot (mC (.bl true)))) (oName 5)) (mAsg (mIf (mOrT (mTru (mVar 5)) (mTb (mBin fNe (mC x) (mVar 0)))) (mLst (mCons (mC (.str "odd")) mNil)) (mLst mNil)) (oName 2)))) (mSeq (mAsg (mIf (mTb (mBin fEq (mVar 1) (mC (.int 0)))) (mCall 1 f_read_told (mCons (mVar 0) mNil)) (mCall 1 f_read_told (mCons (mVar 0) mNil))) (oName 3)) (mAsg (mIf (mTb (mBin fEq (mCall 1 f_show_told (mCons (mVar 3) mNil)) (mVar 0))) (mLst (mCons (mVar 3) mNil)) (mLst (mCons (mC (.str "other")) mNil))) (oName 2)))) (mRet (mVar 2))))
theorem F__law_caught (T : Txt K mg) (D : ∃ fd, FunD K "_law_caught" "_law_caught" (defArgs s__law_caught) (defBody s__law_caught) (defScope s__law_caught) [] [] (He.ga K "_law_caught") fd) (h_show_told : Fnc P w K mg base "show_told" 1 1 f_show_told) (h_read_told : Fnc P w K mg base "read_told" 3 1 f_read_told) (hk_read_told : FncK P w K mg base "read_told" 3 ["text"] f_read_told) : Fnc P w K mg base "_law_caught" 4 2 (fnM 6 m__law_caught) := by
  have sc := sc__law_caught
  exact fnc_mk (ps := ["wording", "way"]) (N := ["wording", "way", "found", "told", "e", "odd"]) (k := 3) (m := m__law_caught) T.g__law_caught D sc (fun _ _ _ _ _ _ us hl => match us, hl with | [_, _], _ => rfl) (fun cdv A outer s H E hr tk =>
    (s_cons (by exact (d_set (i := 2) (by first | exact List.not_mem_nil | exact nmem (by decide)) sc.nd rfl (by first | exact Or.inl rfl | exact Or.inr rfl) (by exact (d_lst a_nil))))
      (s_cons (by exact (d_try (C := "TellError") (n := "e") (i := 4) (known := fun C => decide (C = "Unreadable")) (fun C1 h1 => by have e1 := of_decide_eq_true h1; subst e1; exact T.e_Unreadable_TellError) (by first | exact List.not_mem_nil | exact nmem (by decide)) rfl rfl sc.nd rfl rfl ⟨rfl, by decide, .inl T.g_TellError⟩ tk (fun Wx pn xe tk pa => (s_cons (by exact (d_set (i := 3) (by first | exact List.not_mem_nil | exact nmem (by decide)) sc.nd rfl (by first | exact Or.inl rfl | exact Or.inr rfl) (by exact (d_if (by exact (d_teq (by exact (v 1)) d_int (hu64 hr))) (by exact (c_call h_read_told (hr.mono (by decide)) tk (by exact (by exact (a_cons (by exact (v 0)) a_nil))))) (by exact (c_callK hk_read_told (hr.mono (by decide)) tk (by exact (k_cons (by exact (v 0)) k_nil))))))))
      (s_one (by exact (d_set (i := 2) (by first | exact List.not_mem_nil | exact nmem (by decide)) sc.nd rfl (by first | exact Or.inl rfl | exact Or.inr rfl) (by exact (d_if (by exact (d_teq (by exact (c_call h_show_told (hr.mono (by decide)) tk (by exact (by exact (a_cons (by exact (v 3)) a_nil))))) (by exact (v 0)) (hu64 hr))) (by exact (d_lst (by exact (a_cons (by exact (v 3)) a_nil)))) (by exact (d_lst (by exact (a_cons d_str a_nil))))))))))) (fun a dd oe C1 x pn h1 hz hf => by have e1 := of_decide_eq_true h1; subst e1; exact (s_cons (by exact (d_set (i := 5) (by first | exact List.not_mem_nil | exact nmem (by decide)) sc.nd rfl (by first | exact Or.inl rfl | exact Or.inr rfl) (by exact (by exact (d_or (by exact (d_isx T.x_Unreadable hz hf rfl (by first | exact Or.inl rfl | exact Or.inr (Or.inl rfl) | exact Or.inr (Or.inr rfl)) T.k_Unreadable_InvalidName rfl T.n_isinstance rfl T.g_InvalidName)) (d_one (by exact (d_not (by exact (d_isx T.x_Unreadable hz hf rfl (by first | exact Or.inl rfl | exact Or.inr (Or.inl rfl) | exact Or.inr (Or.inr rfl)) T.k_Unreadable_Unreadable rfl T.n_isinstance rfl T.g_Unreadable))))))))))
      (s_one (by exact (d_set (i := 2) (by first | exact List.not_mem_nil | exact nmem (by decide)) sc.nd rfl (by first | exact Or.inl rfl | exact Or.inr rfl) (by exact (d_if (by exact (L2.PW.pt (by exact (w_or (by exact (d_truth (by exact (v 5)))) (w_or1 (by exact (d_tne (by exact (d_xval T.x_Unreadable hz hf rfl (by first | exact Or.inl rfl | exact Or.inr (Or.inl rfl) | exact Or.inr (Or.inr rfl)))) (by exact (v 0)) (by have h := hu64 hr; exact h)))))))) (by exact (d_lst (by exact (a_cons d_str a_nil)))) (by exact (d_lst a_nil)))))))))))
      (s_one (by exact (d_ret (by exact (v 2))))))))
def f__law_caught : FN := fnM 6 m__law_caught
abbrev s__law_odd : Stmt := top 18
theorem sc__law_odd : FnScope ["purse", "wording", "menu", "many"] ["purse", "wording"] (defScope s__law_odd) := ⟨rfl, rfl, rfl, by decide +kernel, rfl, by decide +kernel, by decide +kernel⟩
def m__law_odd : MS := (mSeq (mAsg (mLst (mCons (mC (.str "")) (mCons (mC (.str " ")) (mCons (mC (.str "left")) (mCons (mC (.str "ended")) (mCons (mC (.str "left ")) (mCons (mC (.str " ended")) (mCons (mC (.str "Left")) (mCons (mC (.str "left ended")) (mCons (mC (.str "told")) mNil)))))))))) (oName 2)) (mSeq (mAsg (mBin fAdd (mVar 2) (mLst (mCons (mC (.str "told ")) (mCons (mC (.str "told a")) (mCons (mC (.str "told a ")) (mCons (mC (.str "told  a")) (mCons (mC (.str "told A")) mNil))))))) (oName 2)) (mSeq (mAsg (mBin fAdd (mVar 2) (mLst (mCons (mC (.str "during a")) (mCons (mC (.str "from a")) (mCons (mC (.str "told a during")) (mCons (mC (.str "told a during b")) (mCons (mC (.str "told a from b")) mNil))))))) (oName 2)) (mSeq (mAsg (mBin fAdd (mVar 2) (mLst (mCons (mC (.str "told a told b")) (mCons (mC (.str "told a during b from c")) mNil)))) (oName 2)) (mSeq (mAsg (mBin fAdd (mVar 2) (mLst (mCons (mC (.str "told a from b during c")) (mCons (mC (.str "told a duringb")) (mCons (mC (.str "told a during B")) (mCons (mC (.str "told told")) mNil)))))) (oName 2)) (mSeq (mAsg (mBin fAdd (mVar 2) (mLst (mCons (mC (.str "told from from during")) (mCons (mC (.str "told left")) (mCons (mC (.str "a")) (mCons (mC (.str "a b")) mNil)))))) (oName 2)) (mSeq (mAsg (mBin fAdd (mVar 2) (mLst (mCons (mC (.str "told abcdefgh")) (mCons (mC (.str "told abcdefghi")) (mCons (mC (.str "told a1")) (mCons (mC (.str "told a, during b")) (mCons (mC (.str "told a;")) mNil))))))) (oName 2)) (mSeq (mAsg (mBin fAdd (mVar 2) (mLst (mCons (mC (.str "told a during b ended")) (mCons (mC (.str "error a")) (mCons (mC (.str "told a by b")) mNil))))) (oName 2)) (mSeq (mAsg (mBin fAdd (mC (.int 1)) (mCall 2 f__law_coin (mCons (mVar 0) (mCons (mC (.int 200)) mNil)))) (oName 3)) (mSeq (mAsg (mBin fAdd (mVar 2) (mLst (mCons (mBin fAdd (mC (.str "told a")) (mBin fMulS (mC (.str " during b")) (mVar 3))) (mCons (mBin fAdd (mBin fAdd (mC (.str "told a")) (mBin fMulS (mC (.str " from b")) (mVar 3))) (mC (.str " during"))) mNil)))) (oName 2)) (mSeq (mAsg (mBin fAdd (mVar 2) (mLst (mCons (mBin fAdd (mC (.str "told a")) (mBin fMulS (mC (.str " from c during d")) (mBin fAdd (mBin fDiv (mVar 3) (mC (.int 2))) (mC (.int 1))))) mNil))) (oName 2)) (mSeq (mAsg (mBin fAdd (mVar 2) (mLst (mCons (mBin fAdd (mVar 1) (mC (.str " from x"))) (mCons (mBin fAdd (mVar 1) (mC (.str " during"))) (mCons (mBin fAdd (mVar 1) (mC (.str " told x"))) mNil))))) (oName 2)) (mSeq (mAsg (mBin fAdd (mVar 2) (mLst (mCons (mRepl " " "  " (mVar 1)) (mCons (mSl (mVar 1) (mSo (mC (.int 5))) mNo) (mCons (mBin fAdd (mVar 1) (mC (.str " x"))) mNil))))) (oName 2)) (mRet (mBin fIx (mVar 2) (mCall 2 f__law_coin (mCons (mVar 0) (mCons (mCB fLen (mCons (mVar 2) mNil)) mNil))))))))))))))))))
theorem F__law_odd (T : Txt K mg) (D : ∃ fd, FunD K "_law_odd" "_law_odd" (defArgs s__law_odd) (defBody s__law_odd) (defScope s__law_odd) [] [] (He.ga K "_law_odd") fd) (h__law_coin : Fnc P w K mg base "_law_coin" 1 2 f__law_coin) : Fnc P w K mg base "_law_odd" 2 2 (fnM 4 m__law_odd) := by
  have sc := sc__law_odd
  exact fnc_mk (ps := ["purse", "wording"]) (N := ["purse", "wording", "menu", "many"]) (k := 1) (m := m__law_odd) T.g__law_odd D sc (fun _ _ _ _ _ _ us hl => match us, hl with | [_, _], _ => rfl) (fun cdv A outer s H E hr tk =>
    (rs_tok (i := 2) (by decide) (by first | exact List.not_mem_nil | exact nmem (by decide)) sc.nd rfl (by first | exact Or.inl rfl | exact Or.inr rfl) (by exact (by exact (a_cons d_str (by exact (a_cons d_str (by exact (a_cons d_str (by exact (a_cons d_str (by exact (a_cons d_str (by exact (a_cons d_str (by exact (a_cons d_str (by exact (a_cons d_str a_nil)))))))))))))))))
      (rs_cons (rs_of (by exact (d_set (i := 2) (by first | exact List.not_mem_nil | exact nmem (by decide)) sc.nd rfl (by first | exact Or.inl rfl | exact Or.inr rfl) (by exact (d_add (by exact (v 2)) (by exact (d_lst (by exact (a_cons d_str (by exact (a_cons d_str (by exact (a_cons d_str (by exact (a_cons d_str (by exact (a_cons d_str a_nil)))))))))))))))))
      (rs_cons (rs_of (by exact (d_set (i := 2) (by first | exact List.not_mem_nil | exact nmem (by decide)) sc.nd rfl (by first | exact Or.inl rfl | exact Or.inr rfl) (by exact (d_add (by exact (v 2)) (by exact (d_lst (by exact (a_cons d_str (by exact (a_cons d_str (by exact (a_cons d_str (by exact (a_cons d_str (by exact (a_cons d_str a_nil)))))))))))))))))
      (rs_cons (rs_of (by exact (d_set (i := 2) (by first | exact List.not_mem_nil | exact nmem (by decide)) sc.nd rfl (by first | exact Or.inl rfl | exact Or.inr rfl) (by exact (d_add (by exact (v 2)) (by exact (d_lst (by exact (a_cons d_str (by exact (a_cons d_str a_nil)))))))))))
      (rs_cons (rs_of (by exact (d_set (i := 2) (by first | exact List.not_mem_nil | exact nmem (by decide)) sc.nd rfl (by first | exact Or.inl rfl | exact Or.inr rfl) (by exact (d_add (by exact (v 2)) (by exact (d_lst (by exact (a_cons d_str (by exact (a_cons d_str (by exact (a_cons d_str (by exact (a_cons d_str a_nil)))))))))))))))
      (rs_cons (rs_of (by exact (d_set (i := 2) (by first | exact List.not_mem_nil | exact nmem (by decide)) sc.nd rfl (by first | exact Or.inl rfl | exact Or.inr rfl) (by exact (d_add (by exact (v 2)) (by exact (d_lst (by exact (a_cons d_str (by exact (a_cons d_str (by exact (a_cons d_str (by exact (a_cons d_str a_nil)))))))))))))))
      (rs_cons (rs_of (by exact (d_set (i := 2) (by first | exact List.not_mem_nil | exact nmem (by decide)) sc.nd rfl (by first | exact Or.inl rfl | exact Or.inr rfl) (by exact (d_add (by exact (v 2)) (by exact (d_lst (by exact (a_cons d_str (by exact (a_cons d_str (by exact (a_cons d_str (by exact (a_cons d_str (by exact (a_cons d_str a_nil)))))))))))))))))
      (rs_cons (rs_of (by exact (d_set (i := 2) (by first | exact List.not_mem_nil | exact nmem (by decide)) sc.nd rfl (by first | exact Or.inl rfl | exact Or.inr rfl) (by exact (d_add (by exact (v 2)) (by exact (d_lst (by exact (a_cons d_str (by exact (a_cons d_str (by exact (a_cons d_str a_nil)))))))))))))
      (rs_cons (rs_of (by exact (d_set (i := 3) (by first | exact List.not_mem_nil | exact nmem (by decide)) sc.nd rfl (by first | exact Or.inl rfl | exact Or.inr rfl) (by exact (d_add d_int (by exact (c_call h__law_coin (hr.mono (by decide)) tk (by exact (by exact (a_cons (by exact (v 0)) (by exact (a_cons d_int a_nil))))))))))))
      (rs_cons (rs_of (by exact (d_set (i := 2) (by first | exact List.not_mem_nil | exact nmem (by decide)) sc.nd rfl (by first | exact Or.inl rfl | exact Or.inr rfl) (by exact (d_add (by exact (v 2)) (by exact (d_lst (by exact (a_cons (by exact (d_add d_str (by exact (d_mulS d_str (by exact (v 3)))))) (by exact (a_cons (by exact (d_add (by exact (d_add d_str (by exact (d_mulS d_str (by exact (v 3)))))) d_str)) a_nil)))))))))))
      (rs_cons (rs_of (by exact (d_set (i := 2) (by first | exact List.not_mem_nil | exact nmem (by decide)) sc.nd rfl (by first | exact Or.inl rfl | exact Or.inr rfl) (by exact (d_add (by exact (v 2)) (by exact (d_lst (by exact (a_cons (by exact (d_add d_str (by exact (d_mulS d_str (by exact (d_add (by exact (d_fdiv (by exact (v 3)) d_int)) d_int)))))) a_nil)))))))))
      (rs_cons (rs_of (by exact (d_set (i := 2) (by first | exact List.not_mem_nil | exact nmem (by decide)) sc.nd rfl (by first | exact Or.inl rfl | exact Or.inr rfl) (by exact (d_add (by exact (v 2)) (by exact (d_lst (by exact (a_cons (by exact (d_add (by exact (v 1)) d_str)) (by exact (a_cons (by exact (d_add (by exact (v 1)) d_str)) (by exact (a_cons (by exact (d_add (by exact (v 1)) d_str)) a_nil)))))))))))))
      (rs_cons (rs_set (i := 2) (by first | exact List.not_mem_nil | exact nmem (by decide)) sc.nd rfl (by first | exact Or.inl rfl | exact Or.inr rfl) (by exact (r_add (r_of (by exact (v 2))) (by exact (r_lst (by exact (ra_cons (by exact (r_repl (by exact (v 1)))) (by exact (ra_cons (r_of (by exact (d_sl (by exact (v 1)) (by exact (o_some d_int)) o_none))) (by exact (ra_cons (r_of (by exact (d_add (by exact (v 1)) d_str))) ra_nil)))))))))))
      (rs_one (rs_of (by exact (d_ret (by exact (d_ix (by exact (v 2)) (by exact (c_call h__law_coin (hr.mono (by decide)) tk (by exact (by exact (a_cons (by exact (v 0)) (by exact (a_cons (by exact (d_len rfl T.n_len (by exact (by exact (a_cons (by exact (v 2)) a_nil))))) a_nil)))))))))))))))))))))))))))
def f__law_odd : FN := fnM 4 m__law_odd
abbrev s__law_marred : Stmt := top 19
theorem sc__law_marred : FnScope ["purse", "wording", "spot", "way", "wide", "signs", "sign", "between", "pieces", "left", "right", "piece"] ["purse", "wording"] (defScope s__law_marred) := ⟨rfl, rfl, rfl, by decide +kernel, rfl, by decide +kernel, by decide +kernel⟩
def m__law_marred : MS := (mSeq (mPar 2 3 (mCall 2 f__law_coin (mCons (mVar 0) (mCons (mBin fAdd (mCB fLen (mCons (mVar 1) mNil)) (mC (.int 1))) mNil))) (mCall 2 f__law_coin (mCons (mVar 0) (mCons (mC (.int 8)) mNil)))) (mSeq (mAsg (mC (.str "ABCDEFGHIJKLMNOPQRSTUVWXYZ0123456789abcdefghijklmnopqrstuvwxyz !#$&'()*+,-./:;<=>?\x40[]^_`{|}~\"\\")) (oName 4)) (mSeq (mAsg (mBin fIx (mLst (mCons (mC (.str "told fromurigabx")) (mCons (mVar 4) mNil))) (mCall 2 f__law_coin (mCons (mVar 0) (mCons (mC (.int 2)) mNil)))) (oName 5)) (mSeq (mAsg (mBin fIx (mVar 5) (mCall 2 f__law_coin (mCons (mVar 0) (mCons (mCB fLen (mCons (mVar 5) mNil)) mNil)))) (oName 6)) (mSeq (mIfS (mTb (mBin fEq (mVar 3) (mC (.int 0)))) (mRet (mBin fAdd (mBin fAdd (mSl (mVar 1) mNo (mSo (mVar 2))) (mVar 6)) (mSl (mVar 1) (mSo (mVar 2)) mNo))) mNext) (mSeq (mIfS (mTb (mBin fEq (mVar 3) (mC (.int 1)))) (mRet (mBin fAdd (mSl (mVar 1) mNo (mSo (mVar 2))) (mSl (mVar 1) (mSo (mBin fAdd (mVar 2) (mC (.int 1)))) mNo))) mNext) (mSeq (mIfS (mTb (mBin fEq (mVar 3) (mC (.int 2)))) (mRet (mBin fAdd (mBin fAdd (mSl (mVar 1) mNo (mSo (mVar 2))) (mVar 6)) (mSl (mVar 1) (mSo (mBin fAdd (mVar 2) (mC (.int 1)))) mNo))) mNext) (mSeq (mIfS (mTb (mBin fEq (mVar 3) (mC (.int 3)))) (mRet (mCall 2 f__law_odd (mCons (mVar 0) (mCons (mVar 1) mNil)))) mNext) (mSeq (mIfS (mTb (mBin (fIn false) (mVar 3) (mTup (mCons (mC (.int 4)) (mCons (mC (.int 5)) mNil))))) (mSeq (mAsg (mBin fIx (mLst (mCons (mC (.str " ")) (mCons (mC (.str " from ")) mNil))) (mBin fSub (mVar 3) (mC (.int 4)))) (oName 7)) (mSeq (mAsg (mBMc isTxt (fSplit true) (mVar 1) (mCons (mVar 7) mNil)) (oName 8)) (mSeq (mPar 9 10 (mCall 2 f__law_coin (mCons (mVar 0) (mCons (mCB fLen (mCons (mVar 8) mNil)) mNil))) (mCall 2 f__law_coin (mCons (mVar 0) (mCons (mCB fLen (mCons (mVar 8) mNil)) mNil)))) (mSeq (mAsg (mBin fIx (mVar 8) (mVar 9)) (oName 11)) (mSeq (mAsg (mBin fIx (mVar 8) (mVar 10)) (oSub (mVar 8) (mVar 9))) (mSeq (mAsg (mVar 11) (oSub (mVar 8) (mVar 10))) (mRet (mBMc isTxt (txtF gJoin) (mVar 7) (mCons (mVar 8) mNil))))))))) mNext) (mRet (mVar 1)))))))))))
theorem F__law_marred (T : Txt K mg) (D : ∃ fd, FunD K "_law_marred" "_law_marred" (defArgs s__law_marred) (defBody s__law_marred) (defScope s__law_marred) [] [] (He.ga K "_law_marred") fd) (h__law_coin : Fnc P w K mg base "_law_coin" 1 2 f__law_coin) (h__law_odd : Fnc P w K mg base "_law_odd" 2 2 f__law_odd) : Fnc P w K mg base "_law_marred" 3 2 (fnM 12 m__law_marred) := by
  have sc := sc__law_marred
  exact fnc_mk (ps := ["purse", "wording"]) (N := ["purse", "wording", "spot", "way", "wide", "signs", "sign", "between", "pieces", "left", "right", "piece"]) (k := 2) (m := m__law_marred) T.g__law_marred D sc (fun _ _ _ _ _ _ us hl => match us, hl with | [_, _], _ => rfl) (fun cdv A outer s H E hr tk =>
    (s_cons (by exact (d_par (i := 2) (j := 3) (by first | exact List.not_mem_nil | exact nmem (by decide)) (by first | exact List.not_mem_nil | exact nmem (by decide)) rfl sc.nd rfl rfl (by decide) rfl rfl (by exact (c_call h__law_coin (hr.mono (by decide)) tk (by exact (by exact (a_cons (by exact (v 0)) (by exact (a_cons (by exact (d_add (by exact (d_len rfl T.n_len (by exact (by exact (a_cons (by exact (v 1)) a_nil))))) d_int)) a_nil))))))) (by exact (c_call h__law_coin (hr.mono (by decide)) tk (by exact (by exact (a_cons (by exact (v 0)) (by exact (a_cons d_int a_nil))))))) (by rfl)))
      (s_cons (by exact (d_set (i := 4) (by first | exact List.not_mem_nil | exact nmem (by decide)) sc.nd rfl (by first | exact Or.inl rfl | exact Or.inr rfl) d_str))
      (s_cons (by exact (d_set (i := 5) (by first | exact List.not_mem_nil | exact nmem (by decide)) sc.nd rfl (by first | exact Or.inl rfl | exact Or.inr rfl) (by exact (d_ix (by exact (d_lst (by exact (a_cons d_str (by exact (a_cons (by exact (v 4)) a_nil)))))) (by exact (c_call h__law_coin (hr.mono (by decide)) tk (by exact (by exact (a_cons (by exact (v 0)) (by exact (a_cons d_int a_nil)))))))))))
      (s_cons (by exact (d_set (i := 6) (by first | exact List.not_mem_nil | exact nmem (by decide)) sc.nd rfl (by first | exact Or.inl rfl | exact Or.inr rfl) (by exact (d_ix (by exact (v 5)) (by exact (c_call h__law_coin (hr.mono (by decide)) tk (by exact (by exact (a_cons (by exact (v 0)) (by exact (a_cons (by exact (d_len rfl T.n_len (by exact (by exact (a_cons (by exact (v 5)) a_nil))))) a_nil)))))))))))
      (s_cons (by exact (d_ifS (by exact (d_teq (by exact (v 3)) d_int (hu64 hr))) (s_one (by exact (d_ret (by exact (d_add (by exact (d_add (by exact (d_sl (by exact (v 1)) o_none (by exact (o_some (by exact (v 2)))))) (by exact (v 6)))) (by exact (d_sl (by exact (v 1)) (by exact (o_some (by exact (v 2)))) o_none))))))) s_nil))
      (s_cons (by exact (d_ifS (by exact (d_teq (by exact (v 3)) d_int (hu64 hr))) (s_one (by exact (d_ret (by exact (d_add (by exact (d_sl (by exact (v 1)) o_none (by exact (o_some (by exact (v 2)))))) (by exact (d_sl (by exact (v 1)) (by exact (o_some (by exact (d_add (by exact (v 2)) d_int)))) o_none))))))) s_nil))
      (s_cons (by exact (d_ifS (by exact (d_teq (by exact (v 3)) d_int (hu64 hr))) (s_one (by exact (d_ret (by exact (d_add (by exact (d_add (by exact (d_sl (by exact (v 1)) o_none (by exact (o_some (by exact (v 2)))))) (by exact (v 6)))) (by exact (d_sl (by exact (v 1)) (by exact (o_some (by exact (d_add (by exact (v 2)) d_int)))) o_none))))))) s_nil))
      (s_cons (by exact (d_ifS (by exact (d_teq (by exact (v 3)) d_int (hu64 hr))) (s_one (by exact (d_ret (by exact (c_call h__law_odd (hr.mono (by decide)) tk (by exact (by exact (a_cons (by exact (v 0)) (by exact (a_cons (by exact (v 1)) a_nil)))))))))) s_nil))
      (s_cons (by exact (d_ifS (by exact (d_tin (by exact (v 3)) (by exact (d_tup (by exact (a_cons d_int (by exact (a_cons d_int a_nil)))))) (hu65 hr))) (s_cons (by exact (d_set (i := 7) (by first | exact List.not_mem_nil | exact nmem (by decide)) sc.nd rfl (by first | exact Or.inl rfl | exact Or.inr rfl) (by exact (d_ix (by exact (d_lst (by exact (a_cons d_str (by exact (a_cons d_str a_nil)))))) (by exact (d_sub (by exact (v 3)) d_int))))))
      (s_cons (by exact (d_set (i := 8) (by first | exact List.not_mem_nil | exact nmem (by decide)) sc.nd rfl (by first | exact Or.inl rfl | exact Or.inr rfl) (by exact (d_split true (by exact (v 1)) (by exact (by exact (a_cons (by exact (v 7)) a_nil)))))))
      (s_cons (by exact (d_par (i := 9) (j := 10) (by first | exact List.not_mem_nil | exact nmem (by decide)) (by first | exact List.not_mem_nil | exact nmem (by decide)) rfl sc.nd rfl rfl (by decide) rfl rfl (by exact (c_call h__law_coin (hr.mono (by decide)) tk (by exact (by exact (a_cons (by exact (v 0)) (by exact (a_cons (by exact (d_len rfl T.n_len (by exact (by exact (a_cons (by exact (v 8)) a_nil))))) a_nil))))))) (by exact (c_call h__law_coin (hr.mono (by decide)) tk (by exact (by exact (a_cons (by exact (v 0)) (by exact (a_cons (by exact (d_len rfl T.n_len (by exact (by exact (a_cons (by exact (v 8)) a_nil))))) a_nil))))))) (by rfl)))
      (s_cons (by exact (d_set (i := 11) (by first | exact List.not_mem_nil | exact nmem (by decide)) sc.nd rfl (by first | exact Or.inl rfl | exact Or.inr rfl) (by exact (d_ix (by exact (v 8)) (by exact (v 9))))))
      (s_cons (by exact (d_asg (by exact (d_ix (by exact (v 8)) (by exact (v 10)))) (by exact (g_sub (by exact (v 8)) (by exact (v 9))))))
      (s_cons (by exact (d_asg (by exact (v 11)) (by exact (g_sub (by exact (v 8)) (by exact (v 10))))))
      (s_one (by exact (d_ret (by exact (d_join (by exact (v 7)) (by exact (by exact (a_cons (by exact (v 8)) a_nil)))))))))))))) s_nil))
      (s_one (by exact (d_ret (by exact (v 1)))))))))))))))
def f__law_marred : FN := sealF (fnM 12 m__law_marred)
abbrev s__law_right : Stmt := top 20
theorem sc__law_right : FnScope ["purse", "titles", "wording", "turn", "word", "bent", "owed"] ["purse"] (defScope s__law_right) := ⟨rfl, rfl, rfl, by decide +kernel, rfl, by decide +kernel, by decide +kernel⟩
def m__law_right : MS := (mSeq (mAsg (mCall 2 f__law_menu (mCons (mVar 0) (mCons (mBin fAdd (mC (.int 1)) (mCall 2 f__law_coin (mCons (mVar 0) (mCons (mC (.int 6)) mNil)))) mNil))) (oName 1)) (mSeq (mAsg (mBin fIx (mLst (mCons (mC (.str "left")) (mCons (mC (.str "ended")) mNil))) (mCall 2 f__law_coin (mCons (mVar 0) (mCons (mC (.int 2)) mNil)))) (oName 2)) (mSeq (mIfS (mTb (mBin fGt (mCall 2 f__law_coin (mCons (mVar 0) (mCons (mC (.int 4)) mNil))) (mC (.int 0)))) (mSeq (mAsg (mBin fAdd (mC (.str "told ")) (mBin fIx (mVar 1) (mC (.int 0)))) (oName 2)) (mFor (mRg1 (mCall 2 f__law_coin (mCons (mVar 0) (mCons (mC (.int 6)) mNil)))) (oName 3) (mSeq (mAsg (mBin fIx (mLst (mCons (mC (.str " during ")) (mCons (mC (.str " from ")) mNil))) (mCall 2 f__law_coin (mCons (mVar 0) (mCons (mC (.int 2)) mNil)))) (oName 4)) (mAsg (mBin fAdd (mBin fAdd (mVar 2) (mVar 4)) (mBin fIx (mVar 1) (mCall 2 f__law_coin (mCons (mVar 0) (mCons (mCB fLen (mCons (mVar 1) mNil)) mNil))))) (oName 2))))) mNext) (mSeq (mFor (mRg1 (mC (.int 8))) (oName 3) (mSeq (mAsg (mCall 2 f__law_marred (mCons (mVar 0) (mCons (mVar 2) mNil))) (oName 5)) (mSeq (mAsg (mCall 1 f__law_told_of (mCons (mVar 5) mNil)) (oName 6)) (mIfS (mAndT (mTb (mBin fLe (mCB fLen (mCons (mVar 5) mNil)) (mC (.int 3000)))) (mTb (mBin fNe (mCall 2 f__law_caught (mCons (mVar 5) (mCons (mCall 2 f__law_coin (mCons (mVar 0) (mCons (mC (.int 2)) mNil))) mNil))) (mVar 6)))) (mRet (mC (.bl false))) mNext)))) (mRet (mC (.bl true)))))))
theorem F__law_right (T : Txt K mg) (D : ∃ fd, FunD K "_law_right" "_law_right" (defArgs s__law_right) (defBody s__law_right) (defScope s__law_right) [] [] (He.ga K "_law_right") fd) (h__law_caught : Fnc P w K mg base "_law_caught" 4 2 f__law_caught) (h__law_coin : Fnc P w K mg base "_law_coin" 1 2 f__law_coin) (h__law_marred : Fnc P w K mg base "_law_marred" 3 2 f__law_marred) (h__law_menu : Fnc P w K mg base "_law_menu" 2 2 f__law_menu) (h__law_told_of : Fnc P w K mg base "_law_told_of" 2 1 f__law_told_of) : Fnc P w K mg base "_law_right" 5 1 (fnM 7 m__law_right) := by
  have sc := sc__law_right
  exact fnc_mk (ps := ["purse"]) (N := ["purse", "titles", "wording", "turn", "word", "bent", "owed"]) (k := 4) (m := m__law_right) T.g__law_right D sc (fun _ _ _ _ _ _ us hl => match us, hl with | [_], _ => rfl) (fun cdv A outer s H E hr tk =>
    (s_cons (by exact (d_set (i := 1) (by first | exact List.not_mem_nil | exact nmem (by decide)) sc.nd rfl (by first | exact Or.inl rfl | exact Or.inr rfl) (by exact (c_call h__law_menu (hr.mono (by decide)) tk (by exact (by exact (a_cons (by exact (v 0)) (by exact (a_cons (by exact (d_add d_int (by exact (c_call h__law_coin (hr.mono (by decide)) tk (by exact (by exact (a_cons (by exact (v 0)) (by exact (a_cons d_int a_nil))))))))) a_nil)))))))))
      (s_cons (by exact (d_set (i := 2) (by first | exact List.not_mem_nil | exact nmem (by decide)) sc.nd rfl (by first | exact Or.inl rfl | exact Or.inr rfl) (by exact (d_ix (by exact (d_lst (by exact (a_cons d_str (by exact (a_cons d_str a_nil)))))) (by exact (c_call h__law_coin (hr.mono (by decide)) tk (by exact (by exact (a_cons (by exact (v 0)) (by exact (a_cons d_int a_nil)))))))))))
      (s_cons (by exact (d_ifS (by exact (d_tgt (by exact (c_call h__law_coin (hr.mono (by decide)) tk (by exact (by exact (a_cons (by exact (v 0)) (by exact (a_cons d_int a_nil))))))) d_int)) (s_cons (by exact (d_set (i := 2) (by first | exact List.not_mem_nil | exact nmem (by decide)) sc.nd rfl (by first | exact Or.inl rfl | exact Or.inr rfl) (by exact (d_add d_str (by exact (d_ix (by exact (v 1)) d_int))))))
      (s_one (by exact (d_for (passes_of rfl) rfl (by exact (i_range1 rfl T.n_range (by exact (c_call h__law_coin (hr.mono (by decide)) tk (by exact (by exact (a_cons (by exact (v 0)) (by exact (a_cons d_int a_nil))))))))) (by exact (g_name (i := 3) (by first | exact List.not_mem_nil | exact nmem (by decide)) sc.nd rfl (by first | exact Or.inl rfl | exact Or.inr rfl))) (s_cons (by exact (d_set (i := 4) (by first | exact List.not_mem_nil | exact nmem (by decide)) sc.nd rfl (by first | exact Or.inl rfl | exact Or.inr rfl) (by exact (d_ix (by exact (d_lst (by exact (a_cons d_str (by exact (a_cons d_str a_nil)))))) (by exact (c_call h__law_coin (hr.mono (by decide)) tk (by exact (by exact (a_cons (by exact (v 0)) (by exact (a_cons d_int a_nil)))))))))))
      (s_one (by exact (d_set (i := 2) (by first | exact List.not_mem_nil | exact nmem (by decide)) sc.nd rfl (by first | exact Or.inl rfl | exact Or.inr rfl) (by exact (d_add (by exact (d_add (by exact (v 2)) (by exact (v 4)))) (by exact (d_ix (by exact (v 1)) (by exact (c_call h__law_coin (hr.mono (by decide)) tk (by exact (by exact (a_cons (by exact (v 0)) (by exact (a_cons (by exact (d_len rfl T.n_len (by exact (by exact (a_cons (by exact (v 1)) a_nil))))) a_nil))))))))))))))))))) s_nil))
      (s_cons (by exact (d_for (passes_of rfl) rfl (by exact (i_range1 rfl T.n_range d_int)) (by exact (g_name (i := 3) (by first | exact List.not_mem_nil | exact nmem (by decide)) sc.nd rfl (by first | exact Or.inl rfl | exact Or.inr rfl))) (s_cons (by exact (d_set (i := 5) (by first | exact List.not_mem_nil | exact nmem (by decide)) sc.nd rfl (by first | exact Or.inl rfl | exact Or.inr rfl) (by exact (c_call h__law_marred (hr.mono (by decide)) tk (by exact (by exact (a_cons (by exact (v 0)) (by exact (a_cons (by exact (v 2)) a_nil)))))))))
      (s_cons (by exact (d_set (i := 6) (by first | exact List.not_mem_nil | exact nmem (by decide)) sc.nd rfl (by first | exact Or.inl rfl | exact Or.inr rfl) (by exact (c_call h__law_told_of (hr.mono (by decide)) tk (by exact (by exact (a_cons (by exact (v 5)) a_nil)))))))
      (s_one (by exact (d_ifS (by exact (L2.PW.pt (by exact (w_and (by exact (d_tle (by exact (d_len rfl T.n_len (by exact (by exact (a_cons (by exact (v 5)) a_nil))))) d_int)) (w_and1 (by exact (d_tne (by exact (c_call h__law_caught (hr.mono (by decide)) tk (by exact (by exact (a_cons (by exact (v 5)) (by exact (a_cons (by exact (c_call h__law_coin (hr.mono (by decide)) tk (by exact (by exact (a_cons (by exact (v 0)) (by exact (a_cons d_int a_nil))))))) a_nil))))))) (by exact (v 6)) (hu64 hr)))))))) (s_one (by exact (d_ret d_bl))) s_nil)))))))
      (s_one (by exact (d_ret d_bl))))))))
def f__law_right : FN := fnM 7 m__law_right
abbrev s_law : Stmt := top 21
theorem sc_law : FnScope ["script", "spot", "purse", "turn"] ["script"] (defScope s_law) := ⟨rfl, rfl, rfl, by decide +kernel, rfl, by decide +kernel, by decide +kernel⟩
def m_law : MS := (mSeq (mFor (mRg1 (mCB fMax (mCons (mC (.int 1)) (mCons (mCB fMin (mCons (mC (.int 6)) (mCons (mCB fLen (mCons (mVar 0) mNil)) mNil))) mNil)))) (oName 1) (mSeq (mAsg (mCall 2 f__law_purse (mCons (mVar 0) (mCons (mVar 1) mNil))) (oName 2)) (mFor (mRg1 (mC (.int 2))) (oName 3) (mIfS (mNotT (mTru (mCall 1 f__law_right (mCons (mVar 2) mNil)))) (mRet (mC (.bl false))) mNext)))) (mRet (mC (.bl true))))
theorem F_law (T : Txt K mg) (D : ∃ fd, FunD K "law" "law" (defArgs s_law) (defBody s_law) (defScope s_law) [] [] (He.ga K "law") fd) (h__law_purse : Fnc P w K mg base "_law_purse" 1 2 f__law_purse) (h__law_right : Fnc P w K mg base "_law_right" 5 1 f__law_right) : Fnc P w K mg base "law" 6 1 (fnM 4 m_law) := by
  have sc := sc_law
  exact fnc_mk (ps := ["script"]) (N := ["script", "spot", "purse", "turn"]) (k := 5) (m := m_law) T.g_law D sc (fun _ _ _ _ _ _ us hl => match us, hl with | [_], _ => rfl) (fun cdv A outer s H E hr tk =>
    (s_cons (by exact (d_for (passes_of rfl) rfl (by exact (i_range1 rfl T.n_range (by exact (d_max rfl rfl T.n_max (by exact (by exact (a_cons d_int (by exact (a_cons (by exact (d_min rfl rfl T.n_min (by exact (by exact (a_cons d_int (by exact (a_cons (by exact (d_len rfl T.n_len (by exact (by exact (a_cons (by exact (v 0)) a_nil))))) a_nil))))))) a_nil))))))))) (by exact (g_name (i := 1) (by first | exact List.not_mem_nil | exact nmem (by decide)) sc.nd rfl (by first | exact Or.inl rfl | exact Or.inr rfl))) (s_cons (by exact (d_set (i := 2) (by first | exact List.not_mem_nil | exact nmem (by decide)) sc.nd rfl (by first | exact Or.inl rfl | exact Or.inr rfl) (by exact (c_call h__law_purse (hr.mono (by decide)) tk (by exact (by exact (a_cons (by exact (v 0)) (by exact (a_cons (by exact (v 1)) a_nil)))))))))
      (s_one (by exact (d_for (passes_of rfl) rfl (by exact (i_range1 rfl T.n_range d_int)) (by exact (g_name (i := 3) (by first | exact List.not_mem_nil | exact nmem (by decide)) sc.nd rfl (by first | exact Or.inl rfl | exact Or.inr rfl))) (s_one (by exact (d_ifS (by exact (d_tnot (by exact (d_truth (by exact (c_call h__law_right (hr.mono (by decide)) tk (by exact (by exact (a_cons (by exact (v 2)) a_nil))))))))) (s_one (by exact (d_ret d_bl))) s_nil)))))))))
      (s_one (by exact (d_ret d_bl)))))
theorem FK_law (T : Txt K mg) (D : ∃ fd, FunD K "law" "law" (defArgs s_law) (defBody s_law) (defScope s_law) [] [] (He.ga K "law") fd) (h__law_purse : Fnc P w K mg base "_law_purse" 1 2 f__law_purse) (h__law_right : Fnc P w K mg base "_law_right" 5 1 f__law_right) : FncK P w K mg base "law" 6 ["script"] (fnM 4 m_law) := by
  have sc := sc_law
  exact fnck_mk (ps := ["script"]) (N := ["script", "spot", "purse", "turn"]) (k := 5) (m := m_law) T.g_law D sc (fun _ _ _ _ _ _ us hl => match us, hl with | [_], _ => rfl) (fun _ _ _ _ _ _ us hl => match us, hl with | [_], _ => rfl) (fun cdv A outer s H E hr tk =>
    (s_cons (by exact (d_for (passes_of rfl) rfl (by exact (i_range1 rfl T.n_range (by exact (d_max rfl rfl T.n_max (by exact (by exact (a_cons d_int (by exact (a_cons (by exact (d_min rfl rfl T.n_min (by exact (by exact (a_cons d_int (by exact (a_cons (by exact (d_len rfl T.n_len (by exact (by exact (a_cons (by exact (v 0)) a_nil))))) a_nil))))))) a_nil))))))))) (by exact (g_name (i := 1) (by first | exact List.not_mem_nil | exact nmem (by decide)) sc.nd rfl (by first | exact Or.inl rfl | exact Or.inr rfl))) (s_cons (by exact (d_set (i := 2) (by first | exact List.not_mem_nil | exact nmem (by decide)) sc.nd rfl (by first | exact Or.inl rfl | exact Or.inr rfl) (by exact (c_call h__law_purse (hr.mono (by decide)) tk (by exact (by exact (a_cons (by exact (v 0)) (by exact (a_cons (by exact (v 1)) a_nil)))))))))
      (s_one (by exact (d_for (passes_of rfl) rfl (by exact (i_range1 rfl T.n_range d_int)) (by exact (g_name (i := 3) (by first | exact List.not_mem_nil | exact nmem (by decide)) sc.nd rfl (by first | exact Or.inl rfl | exact Or.inr rfl))) (s_one (by exact (d_ifS (by exact (d_tnot (by exact (d_truth (by exact (c_call h__law_right (hr.mono (by decide)) tk (by exact (by exact (a_cons (by exact (v 2)) a_nil))))))))) (s_one (by exact (d_ret d_bl))) s_nil)))))))))
      (s_one (by exact (d_ret d_bl)))))
def f_law : FN := fnM 4 m_law
end
end Lw
end
set_option Elab.async false
set_option linter.all false
set_option maxRecDepth 100000
set_option maxHeartbeats 4000000
noncomputable section
namespace Lw
open PySem PySem.Spec PyProof.Rows L2 MP
/-! ### single steps -/
theorem fI_pos {C : Int → Int → Prop} {g : Int → Int → D} {i j : Int} {μ : Mem} (h : C i j) : fI C g (.int i) (.int j) μ = .ok (g i j) μ := if_pos h
theorem fMul_l {i j : Int} {μ : Mem} (h : -(2 ^ 64) < i ∧ i < 2 ^ 64) : fMul (.int i) (.int j) μ = .ok (.int (i * j)) μ := fI_pos (.inl (.inl h))
theorem fMul_r {i j : Int} {μ : Mem} (h : -(2 ^ 64) < j ∧ j < 2 ^ 64) : fMul (.int i) (.int j) μ = .ok (.int (i * j)) μ := fI_pos (.inl (.inr h))
theorem fMod_ok {i j : Int} {μ : Mem} (h : 0 < j) : fMod (.int i) (.int j) μ = .ok (.int (i % j)) μ := fI_pos h
theorem fDiv_ok {i j : Int} {μ : Mem} (h : 0 < j) (h2 : j < 2 ^ 64) : fDiv (.int i) (.int j) μ = .ok (.int (i / j)) μ := by
  refine fI_pos ⟨h, ?_⟩
  have : j.natAbs < 2 ^ 64 := by omega
  have h3 : j.natAbs.log2 < 64 := (Nat.log2_lt (by omega)).mpr this
  omega
theorem bits_le {i : Int} {n : Nat} (hn : 0 < n) (h : i.natAbs < 2 ^ n) : Builtin.Int.intBits i ≤ n := by
  unfold Builtin.Int.intBits
  split
  · omega
  · rename_i hi
    have hi2 : i.natAbs ≠ 0 := by
      intro z
      exact hi (by have : i = 0 := by omega
                   simp [this])
    have := (Nat.log2_lt (n := i.natAbs) (k := n) hi2).mpr h
    omega
theorem fPow_ok {i : Int} {n : Nat} {μ : Mem} (h : i.natAbs < 2 ^ 200) (hn : n ≤ 100) : fPow (.int i) (.int n) μ = .ok (.int (i ^ n)) μ := by
  refine (fI_pos ⟨by omega, ?_⟩).trans (by simp)
  have h1 := bits_le (by decide) h
  have h2 : ((Builtin.Int.intBits i : Nat) : Int) ≤ 200 := by omega
  have h3 : ((n : Nat) : Int) ≤ 100 := by omega
  calc ((Builtin.Int.intBits i : Nat) : Int) * (n : Int) ≤ 200 * 100 := Int.mul_le_mul h2 h3 (by omega) (by omega)
    _ ≤ 2 ^ 27 := by decide
theorem fAdd_int {i j : Int} {μ : Mem} : fAdd (.int i) (.int j) μ = .ok (.int (i + j)) μ := rfl
/-! ### the purse -/
def PS (k : Nat) (c : Cell) : Prop := ∃ a b d : Int, c = .lst [.int a, .int b, .int d] ∧ 0 ≤ a ∧ 0 ≤ b ∧ b < 2 ^ 100 ∧ 0 ≤ d ∧ d + k ≤ 10 ^ 6
def Pu (p k : Nat) (μ : Mem) : Prop := ∃ c, μ[p]? = some c ∧ PS k c
def Dr (p k : Nat) (μ μ' : Mem) : Prop := ∃ c, PS k c ∧ μ' = μ.set p c ∧ p < μ.length
theorem PS.mono {k k' : Nat} {c : Cell} (h : PS k c) (hk : k' ≤ k) : PS k' c := by
  obtain ⟨a, b, d, h1, h2, h3, h4, h5, h6⟩ := h
  exact ⟨a, b, d, h1, h2, h3, h4, h5, by omega⟩
theorem Pu.mono {p k k' : Nat} {μ : Mem} (h : Pu p k μ) (hk : k' ≤ k) : Pu p k' μ := let ⟨c, h1, h2⟩ := h; ⟨c, h1, h2.mono hk⟩
theorem Dr.mono {p k k' : Nat} {μ μ' : Mem} (h : Dr p k μ μ') (hk : k' ≤ k) : Dr p k' μ μ' := let ⟨c, h1, h2⟩ := h; ⟨c, h1.mono hk, h2⟩
theorem Dr.pu {p k : Nat} {μ μ' : Mem} (h : Dr p k μ μ') : Pu p k μ' := by
  obtain ⟨c, h1, rfl, h2⟩ := h
  exact ⟨c, List.getElem?_set_self h2, h1⟩
theorem Dr.trans {p k k' : Nat} {μ μ' μ'' : Mem} (h : Dr p k μ μ') (h' : Dr p k' μ' μ'') : Dr p k' μ μ'' := by
  obtain ⟨c, h1, rfl, h2⟩ := h
  obtain ⟨c', h1', rfl, _⟩ := h'
  exact ⟨c', h1', by rw [List.set_set], h2⟩
theorem Pu.dr {p k : Nat} {μ : Mem} (h : Pu p k μ) : Dr p k μ μ := by
  obtain ⟨c, h1, h2⟩ := h
  obtain ⟨hl, h3⟩ := List.getElem?_eq_some_iff.mp h1
  exact ⟨c, h2, by rw [← h3]; simp, hl⟩
theorem Dr.len {p k : Nat} {μ μ' : Mem} (h : Dr p k μ μ') : μ'.length = μ.length := by
  obtain ⟨c, h1, rfl, h2⟩ := h
  exact List.length_set
theorem m_coin {k p : Nat} {μ : Mem} {m : Int} (h : Pu p (k + 1) μ) (h0 : 0 < m) (h1 : m < 2 ^ 60) : ∃ j μ', f__law_coin [.ref p, .int m] μ = .ok (.int j) μ' ∧ 0 ≤ j ∧ j < m ∧ Dr p k μ μ' := by
  obtain ⟨c, hc, a, b, d, rfl, ha, hb, hb2, hd, hk⟩ := h
  have hpl : p < μ.length := (List.getElem?_eq_some_iff.mp hc).1
  have hs : ∀ c, (μ.set p c)[p]? = some c := fun c => List.getElem?_set_self hpl
  unfold f__law_coin
  by_cases hpos : 0 < a
  · refine ⟨a % m, μ.set p (.lst [.int (a / m), .int b, .int d]), ?_, Int.emod_nonneg _ (by omega), Int.emod_lt_of_pos _ h0, _, ⟨_, _, _, rfl, Int.ediv_nonneg ha (by omega), hb, hb2, hd, by omega⟩, rfl, hpl⟩
    unfold m__law_coin
    simp [fnM, en0, mSeq, mIfS, mTb, mTru, mBin, mVar, mC, mAsg, mRet, mRetN, mEx, mNext, mIf, mCB, mCons, mNil, mTup, mLst, mPar, mAndT, mOrT, mNotT, mAnd, mOr, mNot, mChain, mCall, callR, oName, oTup, oCons, oNil, oSub, Res.seq, MP.f1, f2, fLen, lenD, fInt, fAbs, fMax, fMin, fIx, ixD, viewS, viewT, viewL, fGt, fLt, fLe, fGe, fSub, fI0, atI, ixN, truD, mNo, mSo, mSl, slD, hc, hs, hpos, fMod_ok h0, fDiv_ok h0 (by omega : m < 2 ^ 64)]
  · have hx : (b + 2038074743 * (d + 1)).natAbs < 2 ^ 200 := by
      have : (b + 2038074743 * (d + 1)).natAbs < 2 ^ 101 := by omega
      exact Nat.lt_of_lt_of_le this (Nat.pow_le_pow_right (by decide) (by decide))
    have h10 : ((10 : Int)).natAbs < 2 ^ 200 := Nat.lt_of_lt_of_le (by decide : (10 : Int).natAbs < 2 ^ 4) (Nat.pow_le_pow_right (by decide) (by decide))
    have e1 : ∀ μ, fPow (.int (b + 2038074743 * (d + 1))) (.int 3) μ = .ok (.int ((b + 2038074743 * (d + 1)) ^ 3)) μ := fun μ => fPow_ok (n := 3) hx (by decide)
    have e2 : ∀ μ, fPow (.int 10) (.int 25) μ = .ok (.int (10 ^ 25)) μ := fun μ => fPow_ok (n := 25) h10 (by decide)
    have e3 : ∀ μ, fPow (.int 10) (.int 24) μ = .ok (.int (10 ^ 24)) μ := fun μ => fPow_ok (n := 24) h10 (by decide)
    generalize hy : (b + 2038074743 * (d + 1)) ^ 3 % (10000000000000000000000013 : Int) = y at *
    have hy0 : 0 ≤ y := by rw [← hy]; exact Int.emod_nonneg _ (by decide)
    have hy1 : y < 10000000000000000000000013 := by rw [← hy]; exact Int.emod_lt_of_pos _ (by decide)
    have hx2 : (y + 982451653 * (d + 1)).natAbs < 2 ^ 200 := by
      have : (y + 982451653 * (d + 1)).natAbs < 2 ^ 101 := by omega
      exact Nat.lt_of_lt_of_le this (Nat.pow_le_pow_right (by decide) (by decide))
    have e4 : ∀ μ, fPow (.int (y + 982451653 * (d + 1))) (.int 2) μ = .ok (.int ((y + 982451653 * (d + 1)) ^ 2)) μ := fun μ => fPow_ok (n := 2) hx2 (by decide)
    have e5 : ∀ i μ, fMod (.int i) (.int 10000000000000000000000013) μ = .ok (.int (i % 10000000000000000000000013)) μ := fun i μ => fMod_ok (by decide)
    have e6 : ∀ i μ, fMod (.int i) (.int 1000000000000000000000007) μ = .ok (.int (i % 1000000000000000000000007)) μ := fun i μ => fMod_ok (by decide)
    suffices hq : ∃ q, fnM 4 m__law_coin [.ref p, .int m] μ = .ok (.int (q % m)) (μ.set p (.lst [.int a, .int b, .int (d + 1)])) by
      obtain ⟨q, hq⟩ := hq
      exact ⟨_, _, hq, Int.emod_nonneg _ (show m ≠ 0 by omega), Int.emod_lt_of_pos _ h0, _, ⟨_, _, _, rfl, ha, hb, hb2, by omega, by omega⟩, rfl, hpl⟩
    unfold m__law_coin
    simp [fnM, en0, mSeq, mIfS, mTb, mTru, mBin, mVar, mC, mAsg, mRet, mRetN, mEx, mNext, mIf, mCB, mCons, mNil, mTup, mLst, mPar, mAndT, mOrT, mNotT, mAnd, mOr, mNot, mChain, mCall, callR, oName, oTup, oCons, oNil, oSub, Res.seq, MP.f1, f2, fLen, lenD, fInt, fAbs, fMax, fMin, fIx, ixD, viewS, viewT, viewL, fGt, fLt, fLe, fGe, fSub, fI0, atI, ixN, truD, mNo, mSo, mSl, slD, hc, hs, hpos, fAdd_int, fMul_l (show -(2 ^ 64) < (2038074743 : Int) ∧ (2038074743 : Int) < 2 ^ 64 by decide), fMul_l (show -(2 ^ 64) < (982451653 : Int) ∧ (982451653 : Int) < 2 ^ 64 by decide), e1, e2, e3, e4, e5, e6, hy, fMod_ok h0, fDiv_ok (show (0 : Int) < 1024 by decide) (show (1024 : Int) < 2 ^ 64 by decide)]
    exact ⟨_, rfl⟩
end Lw
end
set_option Elab.async false
set_option linter.all false
set_option maxRecDepth 100000
set_option maxHeartbeats 4000000
noncomputable section
namespace Lw
open PySem PySem.Spec PyProof.Rows L2 MP
/-! ### comprehensions -/
theorem loopC_pure {i : Nat} {t : MT} {m : ME} {e0 : En} {μ : Mem} {tb : D → Bool} {fm : D → D} : ∀ (ds acc : List D), (∀ d ∈ ds, t (e0.set i (some d)) μ = .ok (tb d) μ ∧ (tb d = true → m (e0.set i (some d)) μ = .ok (fm d) μ)) → acc.length + ds.length ≤ 16777216 →
    loopC none (oName i) t m e0 ds acc μ = .ok (acc ++ (ds.filter tb).map fm) μ
  | [], acc, _, _ => by unfold loopC; simp [OkG]
  | d :: ds, acc, h, hz => by
    obtain ⟨h1, h2⟩ := h d List.mem_cons_self
    have hz' : acc.length + ds.length + 1 ≤ 16777216 := by simpa [Nat.add_assoc] using hz
    unfold loopC
    simp only [OkG, if_true, oName, h1, Res.bind0_ok]
    cases q : tb d with
    | false =>
      simp only [Bool.false_eq_true, if_false]
      rw [loopC_pure ds acc (fun d' hd => h d' (List.mem_cons_of_mem _ hd)) (by omega)]
      simp [q]
    | true =>
      simp only [if_true, h2 q, Res.bind0_ok]
      rw [if_pos (by omega), loopC_pure ds (acc ++ [fm d]) (fun d' hd => h d' (List.mem_cons_of_mem _ hd)) (by simp; omega)]
      simp [q]
/-! ### texts -/
abbrev tl (z : Str) : List Nat := z.cps.toList
def Sk (z : Str) : Prop := ∀ c ∈ tl z, c < 0x110000
theorem Sk.ok {z : Str} (h : Sk z) : PyData.strOk z = true := by
  unfold PyData.strOk
  rw [Array.all_eq_true']
  intro c hc
  exact decide_eq_true (h c (Array.mem_toList_iff.mpr hc))
theorem len_tl (z : Str) : z.length = (tl z).length := by
  show z.cps.size = _
  rw [Array.length_toList]
def L26 : List Nat := tl "abcdefghijklmnopqrstuvwxyz"
/-- a name -/
def isT (z : Str) : Bool := decide (0 < z.length ∧ z.length < 9) && (tl z).all fun c => decide (c ∈ L26)
theorem in_sign {c : Nat} {z : Str} {μ : Mem} : fIn false (.str ⟨#[c]⟩) (.str z) μ = .ok (.bl (decide (c ∈ tl z))) μ := rfl
theorem notin_sign {c : Nat} {z : Str} {μ : Mem} : fIn true (.str ⟨#[c]⟩) (.str z) μ = .ok (.bl (!decide (c ∈ tl z))) μ := rfl
theorem bls_map (l : List Nat) (f : Nat → Bool) : blsOf (l.map fun c => D.bl (f c)) = some (l.map f) := by
  induction l with
  | nil => rfl
  | cons c l ih => simp [blsOf, ih]
theorem e_is_name {z : Str} {μ : Mem} (hz : z.length ≤ 16777216) : f_is_name [.str z] μ = .ok (.bl (isT z)) μ := by
  have hc : ∀ e0 : En, e0.length = 2 → loopC none (oName 1) mYes (mBin (fIn false) (mVar 1) (mC (.str "abcdefghijklmnopqrstuvwxyz"))) e0 (strD z) [] μ = .ok ((tl z).map fun c => D.bl (decide (c ∈ L26))) μ := by
    intro e0 he
    rw [loopC_pure (tb := fun _ => true) (fm := fun d => match d with | .str y => .bl (decide ((tl y).headD 0 ∈ L26)) | d => d) _ _ (fun d hd => ?_) (by rw [List.length_nil, strD, List.length_map, ← len_tl]; omega)]
    · rw [List.filter_eq_self.mpr (fun _ _ => rfl), List.nil_append, strD, List.map_map]
      rfl
    · obtain ⟨c, _, rfl⟩ := List.mem_map.mp hd
      refine ⟨rfl, fun _ => ?_⟩
      have : (e0.set 1 (some (.str ⟨#[c]⟩)))[1]? = some (some (.str ⟨#[c]⟩)) := List.getElem?_set_self (by omega)
      simp only [mBin, mVar, this, Res.bind_ok, mC, in_sign]
      rfl
  unfold f_is_name m_is_name isT
  by_cases h1 : 0 < z.length
  · by_cases h2 : z.length < 9
    · have h3 : (z.length : Int) < 9 := by omega
      simp [fnM, en0, mSeq, mIfS, mTb, mTru, mBin, mVar, mC, mAsg, mRet, mRetN, mEx, mNext, mIf, mCB, mCons, mNil, mTup, mLst, mPar, mAndT, mOrT, mNotT, mAnd, mOr, mNot, mChain, mCall, callR, oName, oTup, oCons, oNil, oSub, Res.seq, MP.f1, f2, fLen, lenD, fInt, fAbs, fMax, fMin, fIx, ixD, viewS, viewT, viewL, fGt, fLt, fLe, fGe, fSub, fI0, atI, ixN, truD, mNo, mSo, mSl, slD, h1, h2, h3, mLc, mIt, wipeE, hc, fAll, bls_map, Function.comp_def]
    · have h3 : ¬ (z.length : Int) < 9 := by omega
      simp [fnM, en0, mSeq, mIfS, mTb, mTru, mBin, mVar, mC, mAsg, mRet, mRetN, mEx, mNext, mIf, mCB, mCons, mNil, mTup, mLst, mPar, mAndT, mOrT, mNotT, mAnd, mOr, mNot, mChain, mCall, callR, oName, oTup, oCons, oNil, oSub, Res.seq, MP.f1, f2, fLen, lenD, fInt, fAbs, fMax, fMin, fIx, ixD, viewS, viewT, viewL, fGt, fLt, fLe, fGe, fSub, fI0, atI, ixN, truD, mNo, mSo, mSl, slD, h1, h2, h3]
  · simp [fnM, en0, mSeq, mIfS, mTb, mTru, mBin, mVar, mC, mAsg, mRet, mRetN, mEx, mNext, mIf, mCB, mCons, mNil, mTup, mLst, mPar, mAndT, mOrT, mNotT, mAnd, mOr, mNot, mChain, mCall, callR, oName, oTup, oCons, oNil, oSub, Res.seq, MP.f1, f2, fLen, lenD, fInt, fAbs, fMax, fMin, fIx, ixD, viewS, viewT, viewL, fGt, fLt, fLe, fGe, fSub, fI0, atI, ixN, truD, mNo, mSo, mSl, slD, h1]
theorem dat_strs (k : Nat) (μ : Mem) : ∀ l : List Str, (l.map D.str).mapM (dat (k + 1) μ) = some (l.map PyData.str)
  | [] => rfl
  | z :: l => by
    rw [List.map_cons, List.mapM_cons, dat_strs k μ l]
    rfl
theorem shaped_strs {l : List Str} (h : ∀ z ∈ l, Sk z) : SeqAt.shaped (.list (l.map PyData.str)) = true := by
  have h1 : ∀ l : List Str, (∀ z ∈ l, Sk z) → PyData.canLayAll0 (l.map PyData.str) = true := by
    intro l
    induction l with
    | nil => intro _; rfl
    | cons z l ih =>
      intro h
      show (PyData.canLay0 (.str z) && PyData.canLayAll0 (l.map PyData.str)) = true
      rw [ih fun y hy => h y (List.mem_cons_of_mem _ hy)]
      show (PyData.strOk z && true) = true
      rw [(h z List.mem_cons_self).ok]; rfl
  have h2 : ∀ l : List Str, PyData.depthAll (l.map PyData.str) = 0 := by
    intro l
    induction l with
    | nil => rfl
    | cons z l ih =>
      show max (PyData.depth (.str z)) (PyData.depthAll (l.map PyData.str)) = 0
      rw [ih]; rfl
  unfold SeqAt.shaped
  have e1 : PyData.canLay0 (.list (l.map PyData.str)) = true := h1 l h
  have e2 : PyData.depth (.list (l.map PyData.str)) = 1 := by show PyData.depthAll _ + 1 = 1; rw [h2]
  rw [e1, e2]; rfl
theorem e_is_title {z : Str} {μ : Mem} (hz : z.length ≤ 16777216) (hk : Sk z) : f__law_is_title [.str z] μ = .ok (.bl (isT z)) μ := by
  have hc : ∀ e0 : En, e0.length = 3 → e0[1]? = some (some (.str "abcdefghijklmnopqrstuvwxyz")) → loopC none (oName 2) (mTb (mBin (fIn true) (mVar 2) (mVar 1))) (mVar 2) e0 (strD z) [] μ = .ok ((((tl z).filter fun c => !decide (c ∈ L26)).map fun c => (⟨#[c]⟩ : Str)).map D.str) μ := by
    intro e0 he h1
    rw [loopC_pure (tb := fun d => match d with | .str y => !decide ((tl y).headD 0 ∈ L26) | d => true) (fm := fun d => d) _ _ (fun d hd => ?_) (by rw [List.length_nil, strD, List.length_map, ← len_tl]; omega)]
    · rw [List.nil_append, strD, List.filter_map, List.map_map, List.map_map]
      rfl
    · obtain ⟨c, _, rfl⟩ := List.mem_map.mp hd
      have h2 : (e0.set 2 (some (.str ⟨#[c]⟩)))[2]? = some (some (.str ⟨#[c]⟩)) := List.getElem?_set_self (by omega)
      have h3 : (e0.set 2 (some (.str ⟨#[c]⟩)))[1]? = some (some (.str "abcdefghijklmnopqrstuvwxyz")) := by rw [List.getElem?_set_ne (by decide)]; exact h1
      refine ⟨?_, fun _ => ?_⟩
      · simp only [mTb, mBin, mVar, h2, h3, Res.bind_ok, notin_sign]
        rfl
      · simp only [mVar, h2]
  unfold f__law_is_title m__law_is_title isT
  by_cases h1 : 0 < z.length
  · by_cases h2 : z.length < 9
    · have he : ∀ l : List Nat, (∀ c ∈ l, c < 0x110000) → eqD (.lst ((l.map fun c => (⟨#[c]⟩ : Str)).map D.str)) (.lst []) μ = some l.isEmpty := by
        intro l hl
        have hs : SeqAt.shaped (.list ((l.map fun c => (⟨#[c]⟩ : Str)).map PyData.str)) = true := shaped_strs fun y hy => by
          obtain ⟨c, hc, rfl⟩ := List.mem_map.mp hy
          intro c' hc'
          have : c' = c := by simpa using hc'
          rw [this]; exact hl c hc
        have e0 : eqD (.lst ((l.map fun c => (⟨#[c]⟩ : Str)).map D.str)) (.lst []) μ = if (SeqAt.shaped (.list ((l.map fun c => (⟨#[c]⟩ : Str)).map PyData.str)) && SeqAt.shaped (.list [])) = true then some (PyData.eqv (.list ((l.map fun c => (⟨#[c]⟩ : Str)).map PyData.str)) (.list [])) else none := by
          have e1 : dat 40 μ (.lst ((l.map fun c => (⟨#[c]⟩ : Str)).map D.str)) = some (.list ((l.map fun c => (⟨#[c]⟩ : Str)).map PyData.str)) := by
            show Option.map _ (List.mapM (dat 39 μ) _) = _
            rw [dat_strs]; rfl
          have e2 : dat 40 μ (.lst []) = some (.list []) := rfl
          unfold eqD
          rw [e1, e2]
          rfl
        rw [e0, hs, if_pos (by rfl)]
        cases l with
        | nil => rfl
        | cons c l => rfl
      have ha := he ((tl z).filter fun c => !decide (c ∈ L26)) (fun c h => hk c (List.mem_filter.mp h).1)
      have hb : ((tl z).filter fun c => !decide (c ∈ L26)).isEmpty = (tl z).all fun c => decide (c ∈ L26) := by
        induction (tl z) with
        | nil => rfl
        | cons c l ih =>
          rw [List.all_cons, ← ih, List.filter_cons]
          cases decide (c ∈ L26) <;> rfl
      rw [hb] at ha
      have h3 : (z.length : Int) < 9 := by omega
      simp [-List.map_map, fnM, en0, mSeq, mIfS, mTb, mTru, mBin, mVar, mC, mAsg, mRet, mRetN, mEx, mNext, mIf, mCB, mCons, mNil, mTup, mLst, mPar, mAndT, mOrT, mNotT, mAnd, mOr, mNot, mChain, mCall, callR, oName, oTup, oCons, oNil, oSub, Res.seq, MP.f1, f2, fLen, lenD, fInt, fAbs, fMax, fMin, fIx, ixD, viewS, viewT, viewL, fGt, fLt, fLe, fGe, fSub, fI0, atI, ixN, truD, mNo, mSo, mSl, slD, h1, h2, h3, mLc, mIt, wipeE, hc, fEq, ha]
    · have h3 : ¬ (z.length : Int) < 9 := by omega
      simp [fnM, en0, mSeq, mIfS, mTb, mTru, mBin, mVar, mC, mAsg, mRet, mRetN, mEx, mNext, mIf, mCB, mCons, mNil, mTup, mLst, mPar, mAndT, mOrT, mNotT, mAnd, mOr, mNot, mChain, mCall, callR, oName, oTup, oCons, oNil, oSub, Res.seq, MP.f1, f2, fLen, lenD, fInt, fAbs, fMax, fMin, fIx, ixD, viewS, viewT, viewL, fGt, fLt, fLe, fGe, fSub, fI0, atI, ixN, truD, mNo, mSo, mSl, slD, h1, h2, h3]
  · simp [fnM, en0, mSeq, mIfS, mTb, mTru, mBin, mVar, mC, mAsg, mRet, mRetN, mEx, mNext, mIf, mCB, mCons, mNil, mTup, mLst, mPar, mAndT, mOrT, mNotT, mAnd, mOr, mNot, mChain, mCall, callR, oName, oTup, oCons, oNil, oSub, Res.seq, MP.f1, f2, fLen, lenD, fInt, fAbs, fMax, fMin, fIx, ixD, viewS, viewT, viewL, fGt, fLt, fLe, fGe, fSub, fI0, atI, ixN, truD, mNo, mSo, mSl, slD, h1]
end Lw
end
set_option Elab.async false
set_option linter.all false
set_option maxRecDepth 100000
set_option maxHeartbeats 4000000
noncomputable section
namespace Lw
open PySem PySem.Spec PyProof.Rows L2 MP
theorem loopC_g {g : MG} {t : MT} {m : ME} {e0 : En} {μ : Mem} {ge : D → En} {fm : D → D} : ∀ (ds acc : List D), (∀ d ∈ ds, g d e0 μ = .ok (ge d) μ ∧ t (ge d) μ = .ok true μ ∧ m (ge d) μ = .ok (fm d) μ) → acc.length + ds.length ≤ 16777216 →
    loopC none g t m e0 ds acc μ = .ok (acc ++ ds.map fm) μ
  | [], acc, _, _ => by unfold loopC; simp [OkG]
  | d :: ds, acc, h, hz => by
    obtain ⟨h0, h1, h2⟩ := h d List.mem_cons_self
    have hz' : acc.length + ds.length + 1 ≤ 16777216 := by simpa [Nat.add_assoc] using hz
    unfold loopC
    simp only [OkG, if_true, h0, h1, Res.bind0_ok, h2]
    rw [if_pos (by omega), loopC_g ds (acc ++ [fm d]) (fun d' hd => h d' (List.mem_cons_of_mem _ hd)) (by simp; omega)]
    simp
/-! ### every second one -/
def ev {β : Type} : List β → List β
  | a :: _ :: r => a :: ev r
  | [a] => [a]
  | [] => []
def od {β : Type} : List β → List β
  | _ :: b :: r => b :: od r
  | [_] => []
  | [] => []
theorem ev_eq {β : Type} : ∀ ds : List β, (List.range ((ds.length + 1) / 2)).filterMap (fun k => ds[2 * k]?) = ev ds
  | [] => by simp [ev]
  | [a] => by simp [ev, List.range_succ]
  | a :: b :: r => by
    have e : ((a :: b :: r).length + 1) / 2 = (r.length + 1) / 2 + 1 := by simp; omega
    rw [e, List.range_succ_eq_map, List.filterMap_cons_some (b := a) (by simp), List.filterMap_map]
    have := ev_eq r
    unfold ev
    rw [← this]
    congr 1
theorem od_eq {β : Type} : ∀ ds : List β, (List.range (ds.length / 2)).filterMap (fun k => ds[2 * k + 1]?) = od ds
  | [] => by simp [od]
  | [a] => by simp [od]
  | a :: b :: r => by
    have e : (a :: b :: r).length / 2 = r.length / 2 + 1 := by simp; omega
    rw [e, List.range_succ_eq_map, List.filterMap_cons_some (b := b) (by simp), List.filterMap_map]
    have := od_eq r
    unfold od
    rw [← this]
    congr 1
theorem st_ev {β : Type} (ds : List β) : stD ds none (some 2) = ev ds := by
  rw [← ev_eq]
  unfold stD
  have e : sliceRange (sliceBounds none none (some 2) ds.length).1 (sliceBounds none none (some 2) ds.length).2.1 (sliceBounds none none (some 2) ds.length).2.2 = (List.range ((ds.length + 1) / 2)).map fun k => 2 * k := by
    show sliceRange 0 (ds.length : Int) 2 = _
    unfold sliceRange
    have e1 : (if (2 : Int) > 0 then (if (0 : Int) < (ds.length : Int) then ((ds.length : Int) - 0 + 2 - 1) / 2 else 0) else (if (0 : Int) > (ds.length : Int) then (0 - (ds.length : Int) - 2 - 1) / (-2) else 0)).toNat = (ds.length + 1) / 2 := by
      rw [if_pos (by decide)]
      split <;> omega
    dsimp only
    rw [e1]
    apply List.map_congr_left
    intro k _
    omega
  rw [e, List.filterMap_map]
  rfl
theorem st_od {β : Type} (ds : List β) (h : 0 < ds.length) : stD ds (some 1) (some 2) = od ds := by
  rw [← od_eq]
  unfold stD
  have e : sliceRange (sliceBounds (some 1) none (some 2) ds.length).1 (sliceBounds (some 1) none (some 2) ds.length).2.1 (sliceBounds (some 1) none (some 2) ds.length).2.2 = (List.range (ds.length / 2)).map fun k => 2 * k + 1 := by
    have e0 : (sliceBounds (some 1) none (some 2) ds.length).1 = 1 := by
      show max (0 : Int) (min 1 (ds.length : Int)) = 1
      omega
    rw [e0]
    show sliceRange 1 (ds.length : Int) 2 = _
    unfold sliceRange
    have e1 : (if (2 : Int) > 0 then (if (1 : Int) < (ds.length : Int) then ((ds.length : Int) - 1 + 2 - 1) / 2 else 0) else (if (1 : Int) > (ds.length : Int) then (1 - (ds.length : Int) - 2 - 1) / (-2) else 0)).toNat = ds.length / 2 := by
      rw [if_pos (by decide)]
      split <;> omega
    dsimp only
    rw [e1]
    apply List.map_congr_left
    intro k _
    omega
  rw [e, List.filterMap_map]
  rfl
theorem ev_map {β γ : Type} (f : β → γ) : ∀ l : List β, ev (l.map f) = (ev l).map f
  | [] => rfl
  | [_] => rfl
  | a :: b :: r => by simp only [List.map_cons, ev, ev_map f r]
theorem od_map {β γ : Type} (f : β → γ) : ∀ l : List β, od (l.map f) = (od l).map f
  | [] => rfl
  | [_] => rfl
  | a :: b :: r => by simp only [List.map_cons, od, od_map f r]
theorem ev_len {β : Type} : ∀ l : List β, (ev l).length = (l.length + 1) / 2
  | [] => by simp [ev]
  | [_] => by simp [ev]
  | a :: b :: r => by simp only [ev, List.length_cons, ev_len r]; omega
theorem od_len {β : Type} : ∀ l : List β, (od l).length = l.length / 2
  | [] => by simp [od]
  | [_] => by simp [od]
  | a :: b :: r => by simp only [od, List.length_cons, od_len r]; omega
/-! ### what is told -/
def prs : List Str → List (Str × Str)
  | a :: b :: r => (a, b) :: prs r
  | _ => []
theorem prs_eq : ∀ l : List Str, prs l = (ev l).zip (od l)
  | [] => rfl
  | [_] => rfl
  | a :: b :: r => by simp only [prs, ev, od, List.zip_cons_cons, prs_eq r]
def wOk (i : Nat) (a : Str) : Bool := if i = 0 then a == "told" else (a == "during" || a == "from")
def okF : Nat → List Str → Bool
  | i, a :: b :: r => wOk i a && isT b && okF (i + 1) r
  | _, _ => true
def pD (p : Str × Str) : D := .tup [.str p.1, .str p.2]
def told (w : Str) : Option D := if w = "left" ∨ w = "ended" then some (.tup [.str w]) else
  if (Txt.split w " ").length % 2 = 1 then none else
  if okF 0 (Txt.split w " ") = true then some (.tup [.str "error", .lst ((prs (Txt.split w " ")).map pD)]) else none
/-! ### pieces of a text -/
theorem join_sub {s : Str} : ∀ {ps : List Str} {p : Str}, p ∈ ps → ∀ c ∈ tl p, c ∈ tl (Str.join s ps)
  | [], p, h, _, _ => by cases h
  | [x], p, h, c, hc => by
    rw [List.mem_singleton.mp h] at hc
    exact hc
  | x :: y :: r, p, h, c, hc => by
    show c ∈ tl (x ++ s ++ Str.join s (y :: r))
    have e : tl (x ++ s ++ Str.join s (y :: r)) = tl x ++ tl s ++ tl (Str.join s (y :: r)) := by
      show (x.cps ++ s.cps ++ (Str.join s (y :: r)).cps).toList = _
      simp
    rw [e]
    rcases List.mem_cons.mp h with z | z
    · rw [z] at hc; simp [hc]
    · have := join_sub (s := s) z c hc; simp [this]
theorem join_len {s : Str} : ∀ {ps : List Str} {p : Str}, p ∈ ps → p.length ≤ (Str.join s ps).length
  | [], p, h => by cases h
  | [x], p, h => by rw [List.mem_singleton.mp h]; exact Nat.le_refl _
  | x :: y :: r, p, h => by
    show _ ≤ (x ++ s ++ Str.join s (y :: r)).length
    rw [Str.length_append, Str.length_append]
    rcases List.mem_cons.mp h with z | z
    · rw [z]; omega
    · have := join_len (s := s) z; omega
theorem split_len {w s p : Str} (h : p ∈ Txt.split w s) : p.length ≤ w.length := by
  have := join_len (s := s) h
  rwa [StrLaws.join_split] at this
theorem split_sk {w s p : Str} (hw : Sk w) (h : p ∈ Txt.split w s) : Sk p := fun c hc => by
  have := join_sub (s := s) h c hc
  rw [StrLaws.join_split] at this
  exact hw c this
theorem split_ne (w s : Str) : Txt.split w s ≠ [] := by
  intro h
  unfold Txt.split at h
  split at h
  · cases h
  · split at h
    · cases h
    · rw [StrLaws.partsBetween_eq] at h
      obtain ⟨p, r, e⟩ := StrLaws.partsFrom_ne w s.length 0 (Builtin.Str.occurrences w s 0 w.length (w.length + 1))
      rw [e] at h; cases h
theorem gSplit_ok {w s : Str} (h0 : s.length ≠ 0) (hw : w.length ≤ 1000000) : gSplit w [.str s] = some ((Txt.split w s).map .str) := by
  unfold gSplit
  refine if_pos ⟨by simp [h0], by omega, Nat.le_trans (PyProof.Rows.split_le w s) (by omega), fun z hz => Nat.le_trans (split_len hz) (by omega)⟩
end Lw
end
set_option Elab.async false
set_option linter.all false
set_option maxRecDepth 100000
set_option maxHeartbeats 4000000
noncomputable section
namespace Lw
open PySem PySem.Spec PyProof.Rows L2 MP
theorem eqD_str {a b : Str} {μ : Mem} : eqD (.str a) (.str b) μ = some (decide (a = b)) := by
  unfold eqD scalD
  simp only [toV]
  have : scal (V.str a) (V.str b) = true := rfl
  rw [if_pos this]
  simp
theorem eqD_int {a b : Int} {μ : Mem} : eqD (.int a) (.int b) μ = some (decide (a = b)) := by
  unfold eqD scalD
  simp only [toV]
  have : scal (V.int a) (V.int b) = true := rfl
  rw [if_pos this]
  simp
theorem flat_strs : ∀ l : List Str, (l.map D.str).all flatD = true
  | [] => rfl
  | _ :: l => by rw [List.map_cons, List.all_cons, flat_strs l]; rfl
theorem inV_strs (a : Str) : ∀ l : List Str, inV (.str a) ((l.map D.str).map flV) = decide (a ∈ l)
  | [] => by simp [inV]
  | x :: l => by
    have ih := inV_strs a l
    unfold inV at ih ⊢
    rw [List.map_cons, List.map_cons, List.any_cons, ih]
    show (eqV (.str x) (.str a) || decide (a ∈ l)) = _
    by_cases h : a = x
    · subst h; simp [eqV]
    · have h2 : ¬ x = a := fun z => h z.symm
      simp [eqV, h, h2]
theorem in_tup {a : Str} {l : List Str} {neg : Bool} {μ : Mem} : fIn neg (.str a) (.tup (l.map D.str)) μ = .ok (.bl (if neg = true then !decide (a ∈ l) else decide (a ∈ l))) μ := by
  have e : inD (.str a) (.tup (l.map D.str)) μ = some (decide (a ∈ l)) := by
    show (if (flatD (.str a) && (l.map D.str).all flatD) = true then some (inV (flV (.str a)) ((l.map D.str).map flV)) else _) = _
    rw [flat_strs]
    exact congrArg some (inV_strs a l)
  unfold fIn
  rw [e]
theorem in_lst {a : Str} {l : List Str} {neg : Bool} {μ : Mem} : fIn neg (.str a) (.lst (l.map D.str)) μ = .ok (.bl (if neg = true then !decide (a ∈ l) else decide (a ∈ l))) μ := by
  have e : inD (.str a) (.lst (l.map D.str)) μ = some (decide (a ∈ l)) := by
    show (if (flatD (.str a) && (l.map D.str).all flatD) = true then some (inV (flV (.str a)) ((l.map D.str).map flV)) else _) = _
    rw [flat_strs]
    exact congrArg some (inV_strs a l)
  unfold fIn
  rw [e]
/-! ### told_of -/
def bT : MS := (mSeq (mAsg (mIf (mTb (mBin fEq (mVar 3) (mC (.int 0)))) (mLst (mCons (mC (.str "told")) mNil)) (mLst (mCons (mC (.str "during")) (mCons (mC (.str "from")) mNil)))) (oName 4)) (mSeq (mIfS (mOrT (mTb (mBin (fIn true) (mBin fIx (mVar 1) (mVar 3)) (mVar 4))) (mNotT (mTru (mCall 1 f__law_is_title (mCons (mBin fIx (mVar 1) (mBin fAdd (mVar 3) (mC (.int 1)))) mNil))))) (mRet (mLst mNil)) mNext) (mEx (mBMc isCel (celF gAppend) (mVar 2) (mCons (mTup (mCons (mBin fIx (mVar 1) (mVar 3)) (mCons (mBin fIx (mVar 1) (mBin fAdd (mVar 3) (mC (.int 1)))) mNil))) mNil)))))
theorem e_ix {ds : List D} {k : Nat} {d : D} {j : Int} {μ : Mem} (h : ds[k]? = some d) (hj : j = (k : Nat)) : fIx (.lst ds) (.int j) μ = .ok d μ := by
  have e : ixD (.lst ds) (.int j) μ = some d := by
    subst hj
    have hl : k < ds.length := (List.getElem?_eq_some_iff.mp h).1
    show atI ds ((k : Nat) : Int) = some d
    unfold atI ixN
    rw [if_pos (by omega), if_pos (by omega)]
    exact h
  unfold fIx
  rw [e]
theorem e_eqi {a b : Int} {μ : Mem} : fEq (.int a) (.int b) μ = .ok (.bl (decide (a = b))) μ := by unfold fEq; rw [eqD_int]
theorem e_eqs {a b : Str} {μ : Mem} : fEq (.str a) (.str b) μ = .ok (.bl (decide (a = b))) μ := by unfold fEq; rw [eqD_str]
theorem e_nei {a b : Int} {μ : Mem} : fNe (.int a) (.int b) μ = .ok (.bl (!decide (a = b))) μ := by unfold fNe; rw [eqD_int]
theorem e_nes {a b : Str} {μ : Mem} : fNe (.str a) (.str b) μ = .ok (.bl (!decide (a = b))) μ := by unfold fNe; rw [eqD_str]
theorem told_turn {w : Str} {ps : List Str} {μ : Mem} {x y : Option D} {done : List D} {i : Nat} {j : Int} {a b : Str} (hj : j = ((2 * i : Nat) : Int)) (ha : ps[2 * i]? = some a) (hb : ps[2 * i + 1]? = some b) (hl : b.length ≤ 16777216) (hk : Sk b) (hd : done.length < 16777216) :
    bT [some (.str w), some (.lst (ps.map .str)), some (.ref μ.length), some (.int j), y] (μ ++ [.lst done]) =
      if (wOk i a && isT b) = true then .ok (.nx [some (.str w), some (.lst (ps.map .str)), some (.ref μ.length), some (.int j), some (if i = 0 then .lst ([("told" : Str)].map D.str) else .lst ([("during" : Str), "from"].map D.str))]) (μ ++ [.lst (done ++ [pD (a, b)])])
      else .ok (.rt (.lst [])) (μ ++ [.lst done]) := by
  have e1 : ∀ μ, fIx (.lst (ps.map .str)) (.int j) μ = .ok (.str a) μ := fun μ => e_ix (k := 2 * i) (by rw [List.getElem?_map, ha]; rfl) (by omega)
  have e2 : ∀ μ, fIx (.lst (ps.map .str)) (.int (j + 1)) μ = .ok (.str b) μ := fun μ => e_ix (k := 2 * i + 1) (by rw [List.getElem?_map, hb]; rfl) (by omega)
  have hcel : isCel (μ ++ [.lst done]) (.ref μ.length) := ⟨_, done, rfl, by simp⟩
  have hget : (μ ++ [Cell.lst done])[μ.length]? = some (.lst done) := by simp
  have hset : ∀ c, (μ ++ [Cell.lst done]).set μ.length c = μ ++ [c] := fun c => by simp
  have hm : ∀ (e : En) (l : List Str), e = [some (.str w), some (.lst (ps.map .str)), some (.ref μ.length), some (.int j), some (.lst (l.map D.str))] →
      (mSeq (mIfS (mOrT (mTb (mBin (fIn true) (mBin fIx (mVar 1) (mVar 3)) (mVar 4))) (mNotT (mTru (mCall 1 f__law_is_title (mCons (mBin fIx (mVar 1) (mBin fAdd (mVar 3) (mC (.int 1)))) mNil))))) (mRet (mLst mNil)) mNext) (mEx (mBMc isCel (celF gAppend) (mVar 2) (mCons (mTup (mCons (mBin fIx (mVar 1) (mVar 3)) (mCons (mBin fIx (mVar 1) (mBin fAdd (mVar 3) (mC (.int 1)))) mNil))) mNil)))) e (μ ++ [.lst done]) =
      if (decide (a ∈ l) && isT b) = true then .ok (.nx e) (μ ++ [.lst (done ++ [pD (a, b)])]) else .ok (.rt (.lst [])) (μ ++ [.lst done]) := by
    intro e l he
    subst he
    by_cases h1 : a ∈ l
    · by_cases h2 : isT b = true
      · simp [fnM, en0, mSeq, mIfS, mTb, mTru, mBin, mVar, mC, mAsg, mRet, mRetN, mEx, mNext, mIf, mCB, mCons, mNil, mTup, mLst, mAndT, mOrT, mNotT, mAnd, mOr, mNot, mChain, mCall, callR, oName, oTup, oCons, oNil, oSub, Res.seq, MP.f1, f2, fInt, fAbs, fMax, fMin, fGt, fLt, fLe, fGe, fSub, fI0, truD, mNo, mSo, mSl, slD, e1, e2, in_lst, e_is_title hl hk, fAdd_int, h1, h2, mBMc, hcel, celF, hget, hset, gAppend, hd, pD]
      · have h2 : isT b = false := by simpa using h2
        simp [fnM, en0, mSeq, mIfS, mTb, mTru, mBin, mVar, mC, mAsg, mRet, mRetN, mEx, mNext, mIf, mCB, mCons, mNil, mTup, mLst, mAndT, mOrT, mNotT, mAnd, mOr, mNot, mChain, mCall, callR, oName, oTup, oCons, oNil, oSub, Res.seq, MP.f1, f2, fInt, fAbs, fMax, fMin, fGt, fLt, fLe, fGe, fSub, fI0, truD, mNo, mSo, mSl, slD, e1, e2, in_lst, e_is_title hl hk, fAdd_int, h1, h2]
    · simp [fnM, en0, mSeq, mIfS, mTb, mTru, mBin, mVar, mC, mAsg, mRet, mRetN, mEx, mNext, mIf, mCB, mCons, mNil, mTup, mLst, mAndT, mOrT, mNotT, mAnd, mOr, mNot, mChain, mCall, callR, oName, oTup, oCons, oNil, oSub, Res.seq, MP.f1, f2, fInt, fAbs, fMax, fMin, fGt, fLt, fLe, fGe, fSub, fI0, truD, mNo, mSo, mSl, slD, e1, e2, in_lst, fAdd_int, h1]
  unfold bT
  by_cases h0 : i = 0
  · have hc : j = 0 := by omega
    have e3 : (mAsg (mIf (mTb (mBin fEq (mVar 3) (mC (.int 0)))) (mLst (mCons (mC (.str "told")) mNil)) (mLst (mCons (mC (.str "during")) (mCons (mC (.str "from")) mNil)))) (oName 4)) [some (.str w), some (.lst (ps.map .str)), some (.ref μ.length), some (.int j), y] (μ ++ [.lst done]) =
        .ok (.nx [some (.str w), some (.lst (ps.map .str)), some (.ref μ.length), some (.int j), some (.lst ([("told" : Str)].map D.str))]) (μ ++ [.lst done]) := by
      simp [fnM, en0, mSeq, mIfS, mTb, mTru, mBin, mVar, mC, mAsg, mRet, mRetN, mEx, mNext, mIf, mCB, mCons, mNil, mTup, mLst, mAndT, mOrT, mNotT, mAnd, mOr, mNot, mChain, mCall, callR, oName, oTup, oCons, oNil, oSub, Res.seq, MP.f1, f2, fInt, fAbs, fMax, fMin, fGt, fLt, fLe, fGe, fSub, fI0, truD, mNo, mSo, mSl, slD, e_eqi, h0, hc]
    rw [mSeq, e3]
    show mSeq _ _ _ _ = _
    rw [hm _ [("told" : Str)] rfl]
    simp [wOk, h0]
  · have e3 : (mAsg (mIf (mTb (mBin fEq (mVar 3) (mC (.int 0)))) (mLst (mCons (mC (.str "told")) mNil)) (mLst (mCons (mC (.str "during")) (mCons (mC (.str "from")) mNil)))) (oName 4)) [some (.str w), some (.lst (ps.map .str)), some (.ref μ.length), some (.int j), y] (μ ++ [.lst done]) =
        .ok (.nx [some (.str w), some (.lst (ps.map .str)), some (.ref μ.length), some (.int j), some (.lst ([("during" : Str), "from"].map D.str))]) (μ ++ [.lst done]) := by
      have hc : ¬ (j = 0) := by omega
      simp [fnM, en0, mSeq, mIfS, mTb, mTru, mBin, mVar, mC, mAsg, mRet, mRetN, mEx, mNext, mIf, mCB, mCons, mNil, mTup, mLst, mAndT, mOrT, mNotT, mAnd, mOr, mNot, mChain, mCall, callR, oName, oTup, oCons, oNil, oSub, Res.seq, MP.f1, f2, fInt, fAbs, fMax, fMin, fGt, fLt, fLe, fGe, fSub, fI0, truD, mNo, mSo, mSl, slD, e_eqi, hc, h0]
    rw [mSeq, e3]
    show mSeq _ _ _ _ = _
    rw [hm _ [("during" : Str), "from"] rfl]
    simp [wOk, h0]
end Lw
end
set_option Elab.async false
set_option linter.all false
set_option maxRecDepth 100000
set_option maxHeartbeats 4000000
noncomputable section
namespace Lw
open PySem PySem.Spec PyProof.Rows L2 MP
theorem told_loop {w : Str} {ps : List Str} {μ : Mem} (hp : ∀ p ∈ ps, p.length ≤ 16777216 ∧ Sk p) : ∀ (m i : Nat) (x y : Option D) (done : List D), 2 * i + 2 * m = ps.length → done.length + m ≤ 16777216 →
    (okF i (ps.drop (2 * i)) = true → ∃ x' y', loopI none (oName 3) bT ((List.range' i m).map fun k => .int (0 + (k : Nat) * 2)) [some (.str w), some (.lst (ps.map .str)), some (.ref μ.length), x, y] (μ ++ [.lst done]) =
      .ok (.nx [some (.str w), some (.lst (ps.map .str)), some (.ref μ.length), x', y']) (μ ++ [.lst (done ++ (prs (ps.drop (2 * i))).map pD)])) ∧
    (okF i (ps.drop (2 * i)) = false → ∃ done', loopI none (oName 3) bT ((List.range' i m).map fun k => .int (0 + (k : Nat) * 2)) [some (.str w), some (.lst (ps.map .str)), some (.ref μ.length), x, y] (μ ++ [.lst done]) = .ok (.rt (.lst [])) (μ ++ [.lst done']))
  | 0, i, x, y, done, hl, _ => by
    have e : ps.drop (2 * i) = [] := List.drop_eq_nil_of_le (by omega)
    rw [e]
    refine ⟨fun _ => ⟨x, y, ?_⟩, fun h => by cases h⟩
    simp [loopI, OkG, prs]
  | m + 1, i, x, y, done, hl, hd => by
    obtain ⟨a, ha⟩ : ∃ a, ps[2 * i]? = some a := ⟨ps[2 * i]'(by omega), List.getElem?_eq_getElem (by omega)⟩
    obtain ⟨b, hb⟩ : ∃ b, ps[2 * i + 1]? = some b := ⟨ps[2 * i + 1]'(by omega), List.getElem?_eq_getElem (by omega)⟩
    have e : ps.drop (2 * i) = a :: b :: ps.drop (2 * (i + 1)) := by
      obtain ⟨h1, rfl⟩ := List.getElem?_eq_some_iff.mp ha
      obtain ⟨h2, rfl⟩ := List.getElem?_eq_some_iff.mp hb
      rw [List.drop_eq_getElem_cons h1, List.drop_eq_getElem_cons h2]
      congr 2
    have hbm : b ∈ ps := List.mem_of_getElem? hb
    have turn := told_turn (w := w) (μ := μ) (x := x) (y := y) (done := done) (j := 0 + (i : Nat) * 2) (by omega) ha hb (hp b hbm).1 (hp b hbm).2 (by omega)
    have step : ∀ ds e μ1, loopI none (oName 3) bT (.int (0 + (i : Nat) * 2) :: ds) e μ1 = (match bT (e.set 3 (some (.int (0 + (i : Nat) * 2)))) μ1 with
      | .ok (.nx e2) μ2 => loopI none (oName 3) bT ds e2 μ2
      | .ok (.ct e2) μ2 => loopI none (oName 3) bT ds e2 μ2
      | .ok (.bk e2) μ2 => .ok (.nx e2) μ2
      | r => r) := fun ds e μ1 => by
        rw [loopI, if_pos (show OkG none μ1 from trivial)]
        rfl
    rw [List.range'_succ, List.map_cons, step, e]
    show (okF i (a :: b :: ps.drop (2 * (i + 1))) = true → _) ∧ _
    rw [show ([some (.str w), some (.lst (ps.map .str)), some (.ref μ.length), x, y] : En).set 3 (some (.int (0 + (i : Nat) * 2))) = [some (.str w), some (.lst (ps.map .str)), some (.ref μ.length), some (.int (0 + (i : Nat) * 2)), y] from rfl, turn]
    cases hq : wOk i a && isT b with
    | false =>
      rw [okF, hq]
      refine ⟨fun h => (by cases h), fun _ => ⟨done, ?_⟩⟩
      simp
    | true =>
      rw [okF, hq, Bool.true_and]
      simp only [if_true]
      obtain ⟨ih1, ih2⟩ := told_loop (w := w) (μ := μ) hp m (i + 1) (some (.int (0 + (i : Nat) * 2))) (some (if i = 0 then .lst ([("told" : Str)].map D.str) else .lst ([("during" : Str), "from"].map D.str))) (done ++ [pD (a, b)]) (by omega) (by rw [List.length_append, List.length_singleton]; omega)
      refine ⟨fun h => ?_, fun h => ih2 h⟩
      obtain ⟨x', y', h3⟩ := ih1 h
      refine ⟨x', y', h3.trans ?_⟩
      rw [prs, List.map_cons, List.append_assoc]
      rfl
theorem rangeC_eq (n : Nat) : rangeC 0 2 n = (List.range' 0 n).map fun k => .int (0 + (k : Nat) * 2) := by
  unfold rangeC
  rw [List.range_eq_range']
theorem mapM_of {β γ : Type} {f : β → Option γ} : ∀ {l : List β} {l' : List γ}, l.length = l'.length → (∀ (i : Nat) (x : β), l[i]? = some x → f x = l'[i]?) → l.mapM f = some l'
  | [], [], _, _ => rfl
  | [], _ :: _, h, _ => by cases h
  | _ :: _, [], h, _ => by cases h
  | x :: l, y :: l', h, hf => by
    have h0 := hf 0 x rfl
    rw [List.mapM_cons, h0, mapM_of (l := l) (l' := l') (by simpa using h) fun i z hz => hf (i + 1) z hz]
    rfl
theorem seal_cut {μ μ1 cs : Mem} {d d' : D} (hl : μ1.length = μ.length) (hc : ∀ (n : Nat) c', μ1[n]? = some c' → μ[n]? = some c' ∨ frzC 40 (μ1 ++ cs) μ.length c' = some c') (h : frz 40 (μ1 ++ cs) μ.length d = some d') : sealR μ (.ok d (μ1 ++ cs)) = .ok d' μ1 := by
  have hs : sealM μ (μ1 ++ cs) = some μ1 := by
    unfold sealM
    refine mapM_of (by rw [List.length_range, hl]) fun i x hx => ?_
    obtain ⟨h1, h2⟩ := List.getElem?_eq_some_iff.mp hx
    rw [List.getElem_range] at h2
    subst h2
    rw [List.length_range] at h1
    have e1 : (μ1 ++ cs)[i]? = some (μ1[i]'(by omega)) := by rw [List.getElem?_append_left (by omega), List.getElem?_eq_getElem (by omega)]
    have e2 : μ[i]? = some μ[i] := List.getElem?_eq_getElem h1
    rw [e1, e2, List.getElem?_eq_getElem (show i < μ1.length by omega)]
    dsimp only
    split
    · rename_i e; rw [e]
    · rename_i e
      rcases hc i _ (List.getElem?_eq_getElem (by omega)) with z | z
      · rw [e2] at z; exact absurd (Option.some.inj z).symm e
      · exact z
  unfold sealR
  simp only [h, hs]
theorem frz_lst {k : Nat} {μ : Mem} {N : Nat} {ds : List D} : frz (k + 1) μ N (.lst ds) = (ds.mapM (frz k μ N)).map .lst := by rw [frz]
theorem frz_tup {k : Nat} {μ : Mem} {N : Nat} {ds : List D} : frz (k + 1) μ N (.tup ds) = (ds.mapM (frz k μ N)).map .tup := by rw [frz]
theorem frz_str {k : Nat} {μ : Mem} {N : Nat} {z : Str} : frz (k + 1) μ N (.str z) = some (.str z) := by rw [frz] <;> (intros; contradiction)
theorem frz_ref {k : Nat} {μ : Mem} {N n : Nat} {ds : List D} (h : ¬ n < N) (h2 : μ[n]? = some (.lst ds)) : frz (k + 1) μ N (.ref n) = (ds.mapM (frz k μ N)).map .lst := by rw [frz, if_neg h, h2]
theorem frz_nil {k : Nat} {μ : Mem} {N : Nat} : frz (k + 1) μ N (.lst []) = some (.lst []) := by rw [frz_lst]; rfl
theorem frz_strs (k : Nat) (μ : Mem) (N : Nat) : ∀ l : List Str, (l.map D.str).mapM (frz (k + 1) μ N) = some (l.map D.str)
  | [] => rfl
  | z :: l => by
    rw [List.map_cons, List.mapM_cons, frz_strs k μ N l, frz_str]
    rfl
theorem frz_prs (k : Nat) (μ : Mem) (N : Nat) : ∀ l : List (Str × Str), (l.map pD).mapM (frz (k + 2) μ N) = some (l.map pD)
  | [] => rfl
  | z :: l => by
    rw [List.map_cons, List.mapM_cons, frz_prs k μ N l, pD, frz_tup, List.mapM_cons, frz_str, List.mapM_cons, frz_str]
    rfl
theorem e_rg3 {ps : List Str} {n : Nat} (hl : ps.length ≤ 1000002) (hn : ps.length = 2 * n) (e : En) (μ : Mem) (he : e[1]? = some (some (.lst (ps.map .str)))) : mRg3 (mC (.int 0)) (mCB fLen (mCons (mVar 1) mNil)) (mC (.int 2)) e μ = .ok ((List.range' 0 n).map fun k => D.int (0 + (k : Nat) * 2), none) μ := by
  have hsz : Builtin.Range.rangeSize 0 (ps.length : Int) 2 = (n : Int) := by
    unfold Builtin.Range.rangeSize
    rw [if_pos (by decide)]
    split <;> omega
  have fits : ∀ x : Int, -100000000 ≤ x → x ≤ 100000000 → Builtin.Range.rangeFitsLong x = true := fun x h1 h2 => by
    unfold Builtin.Range.rangeFitsLong
    simp only [Bool.and_eq_true, decide_eq_true_eq]
    omega
  have hsm : Builtin.Range.small 0 (ps.length : Int) 2 = true := by
    unfold Builtin.Range.small
    rw [hsz, fits 0 (by omega) (by omega), fits (ps.length : Int) (by omega) (by omega), fits 2 (by omega) (by omega), fits (n : Int) (by omega) (by omega), if_pos (by decide), fits ((ps.length : Int) + (2 - 1)) (by omega) (by omega)]
    simp
  rw [← rangeC_eq]
  have c : Rg3 0 (ps.length : Int) 2 := ⟨by omega, by omega, hsm, by omega⟩
  have elen : ∀ μ, fLen [.lst (ps.map .str)] μ = .ok (.int (ps.length : Nat)) μ := fun μ => by simp [fnM, en0, mSeq, mIfS, mTb, mTru, mBin, mVar, mC, mAsg, mRet, mRetN, mEx, mNext, mIf, mCB, mCons, mNil, mTup, mLst, mPar, mAndT, mOrT, mNotT, mAnd, mOr, mNot, mChain, mCall, callR, oName, oTup, oCons, oNil, oSub, Res.seq, MP.f1, f2, fLen, lenD, fInt, fAbs, fMax, fMin, fIx, ixD, viewS, viewT, viewL, fGt, fLt, fLe, fGe, fSub, fI0, atI, ixN, truD, mNo, mSo, mSl, slD, fLen]
  simp only [mRg3, mC, mCB, mCons, mNil, mVar, he, Res.bind_ok, elen]
  rw [if_pos c, hsz, Int.toNat_natCast]
theorem e_told_of {w : Str} {μ : Mem} (hw : w.length ≤ 1000000) (hk : Sk w) : f__law_told_of [.str w] μ = .ok (.lst (told w).toList) μ := by
  have nk : ∀ {d d' : D}, frz 40 μ μ.length d = some d' → sealR μ (.ok d μ) = .ok d' μ := fun {d d'} h => by
    have := seal_cut (μ := μ) (μ1 := μ) (cs := []) (d := d) (d' := d') rfl (fun n c' h => .inl h) (by rw [List.append_nil]; exact h)
    rwa [List.append_nil] at this
  unfold f__law_told_of sealF told
  by_cases h0 : w = "left" ∨ w = "ended"
  · rw [if_pos h0]
    have e : fnM 5 m__law_told_of [.str w] μ = .ok (.lst [.tup [.str w]]) μ := by
      unfold m__law_told_of
      have := in_tup (a := w) (l := ["left", "ended"]) (neg := false) (μ := μ)
      have h0' : w ∈ ([("left" : Str), "ended"] : List Str) := by simpa using h0
      simp [h0'] at this
      simp [fnM, en0, mSeq, mIfS, mTb, mTru, mBin, mVar, mC, mAsg, mRet, mRetN, mEx, mNext, mIf, mCB, mCons, mNil, mTup, mLst, mAndT, mOrT, mNotT, mAnd, mOr, mNot, mChain, mCall, callR, oName, oTup, oCons, oNil, oSub, Res.seq, MP.f1, f2, fInt, fAbs, fMax, fMin, fGt, fLt, fLe, fGe, fSub, fI0, truD, mNo, mSo, mSl, slD, this]
    rw [e]
    refine nk ?_
    rw [show (40 : Nat) = 37 + 1 + 1 + 1 from rfl, frz_lst, List.mapM_cons, frz_tup, List.mapM_cons, frz_str]
    rfl
  · rw [if_neg h0]
    have hs := gSplit_ok (w := w) (s := " ") (by decide) hw
    have hp : ∀ p ∈ Txt.split w " ", p.length ≤ 16777216 ∧ Sk p := fun p h => ⟨Nat.le_trans (split_len h) (by omega), split_sk hk h⟩
    have hl : (Txt.split w " ").length ≤ 1000002 := Nat.le_trans (PyProof.Rows.split_le w " ") (by omega)
    generalize Txt.split w " " = ps at hs hp hl ⊢
    have h0' : ¬ (w ∈ ([("left" : Str), "ended"] : List Str)) := by simpa using h0
    have ein := in_tup (a := w) (l := ["left", "ended"]) (neg := false) (μ := μ)
    simp [h0'] at ein
    have epar : (mPar 1 2 (mBMc isTxt (fSplit false) (mVar 0) (mCons (mC (.str " ")) mNil)) (mCel mNil)) [some (.str w), none, none, none, none] μ = .ok (.nx [some (.str w), some (.lst (ps.map .str)), some (.ref μ.length), none, none]) (μ ++ [.lst []]) := by
      have ht : isTxt μ (.str w) := ⟨w, rfl⟩
      simp [fnM, en0, mSeq, mIfS, mTb, mTru, mBin, mVar, mC, mAsg, mRet, mRetN, mEx, mNext, mIf, mCB, mCons, mNil, mTup, mLst, mAndT, mOrT, mNotT, mAnd, mOr, mNot, mChain, mCall, callR, oName, oTup, oCons, oNil, oSub, Res.seq, MP.f1, f2, fInt, fAbs, fMax, fMin, fGt, fLt, fLe, fGe, fSub, fI0, truD, mNo, mSo, mSl, slD, mPar, mBMc, ht, fSplit, hs, mCel]
    have elen : ∀ μ, fLen [.lst (ps.map .str)] μ = .ok (.int (ps.length : Nat)) μ := fun μ => by simp [fnM, en0, mSeq, mIfS, mTb, mTru, mBin, mVar, mC, mAsg, mRet, mRetN, mEx, mNext, mIf, mCB, mCons, mNil, mTup, mLst, mPar, mAndT, mOrT, mNotT, mAnd, mOr, mNot, mChain, mCall, callR, oName, oTup, oCons, oNil, oSub, Res.seq, MP.f1, f2, fLen, lenD, fInt, fAbs, fMax, fMin, fIx, ixD, viewS, viewT, viewL, fGt, fLt, fLe, fGe, fSub, fI0, atI, ixN, truD, mNo, mSo, mSl, slD, fLen]
    have emod : ∀ i μ, fMod (.int i) (.int 2) μ = .ok (.int (i % 2)) μ := fun i μ => fMod_ok (by decide)
    by_cases h1 : ps.length % 2 = 1
    · rw [if_pos h1]
      have h1' : (ps.length : Int) % 2 = 1 := by omega
      have e : fnM 5 m__law_told_of [.str w] μ = .ok (.lst []) (μ ++ [.lst []]) := by
        unfold m__law_told_of
        simp [fnM, en0, mSeq, mIfS, mTb, mTru, mBin, mVar, mC, mAsg, mRet, mRetN, mEx, mNext, mIf, mCB, mCons, mNil, mTup, mLst, mAndT, mOrT, mNotT, mAnd, mOr, mNot, mChain, mCall, callR, oName, oTup, oCons, oNil, oSub, Res.seq, MP.f1, f2, fInt, fAbs, fMax, fMin, fGt, fLt, fLe, fGe, fSub, fI0, truD, mNo, mSo, mSl, slD, ein, epar, elen, emod, e_eqi, h1']
      rw [e]
      exact seal_cut (μ := μ) (μ1 := μ) (cs := [.lst []]) rfl (fun n c' h => .inl h) (frz_nil (k := 39))
    · rw [if_neg h1]
      obtain ⟨n, hn⟩ : ∃ n, ps.length = 2 * n := ⟨ps.length / 2, by omega⟩
      have h1' : ¬ (ps.length : Int) % 2 = 1 := by omega
      have erg := e_rg3 (ps := ps) (by omega) hn
      obtain ⟨l1, l2⟩ := told_loop (w := w) (μ := μ) hp n 0 none none [] (by omega) (by simp; omega)
      have hfor : mFor (mRg3 (mC (.int 0)) (mCB fLen (mCons (mVar 1) mNil)) (mC (.int 2))) (oName 3) bT [some (.str w), some (.lst (ps.map .str)), some (.ref μ.length), none, none] (μ ++ [.lst []]) =
          loopI none (oName 3) bT ((List.range' 0 n).map fun k => D.int (0 + (k : Nat) * 2)) [some (.str w), some (.lst (ps.map .str)), some (.ref μ.length), none, none] (μ ++ [.lst []]) := by
        unfold mFor
        rw [erg _ _ rfl]
        rfl
      have hm : fnM 5 m__law_told_of [.str w] μ = (match (mFor (mRg3 (mC (.int 0)) (mCB fLen (mCons (mVar 1) mNil)) (mC (.int 2))) (oName 3) bT [some (.str w), some (.lst (ps.map .str)), some (.ref μ.length), none, none] (μ ++ [.lst []])) with
          | .ok (.nx e) μ2 => (match mRet (mLst (mCons (mTup (mCons (mC (.str "error")) (mCons (mVar 2) mNil))) mNil)) e μ2 with
            | .ok (.rt d) μ' => .ok d μ'
            | .ok (.nx _) μ' => .ok .non μ'
            | .exc C x _ μ' => .exc C x [] μ'
            | _ => .stuck)
          | .ok (.rt d) μ' => .ok d μ'
          | .exc C x _ μ' => .exc C x [] μ'
          | _ => .stuck) := by
        unfold m__law_told_of
        show fnM 5 (mSeq _ (mSeq _ (mSeq _ (mSeq (mFor _ _ bT) _)))) _ _ = _
        generalize hF : mFor (mRg3 (mC (.int 0)) (mCB fLen (mCons (mVar 1) mNil)) (mC (.int 2))) (oName 3) bT = F
        simp [fnM, en0, mSeq, mIfS, mTb, mTru, mBin, mVar, mC, mAsg, mRet, mRetN, mEx, mNext, mIf, mCB, mCons, mNil, mTup, mLst, mAndT, mOrT, mNotT, mAnd, mOr, mNot, mChain, mCall, callR, oName, oTup, oCons, oNil, oSub, Res.seq, MP.f1, f2, fInt, fAbs, fMax, fMin, fGt, fLt, fLe, fGe, fSub, fI0, truD, mNo, mSo, mSl, slD, ein, epar, elen, emod, e_eqi, h1']
        cases F [some (.str w), some (.lst (ps.map .str)), some (.ref μ.length), none, none] (μ ++ [.lst []]) with
        | stuck => rfl
        | exc C x e μ1 => rfl
        | ok f μ1 => cases f <;> rfl
      rw [hm, hfor]
      cases ho : okF 0 ps with
      | true =>
        obtain ⟨x', y', h3⟩ := l1 ho
        rw [h3]
        have e : (mRet (mLst (mCons (mTup (mCons (mC (.str "error")) (mCons (mVar 2) mNil))) mNil))) [some (.str w), some (.lst (ps.map .str)), some (.ref μ.length), x', y'] (μ ++ [.lst ((prs ps).map pD)]) = .ok (.rt (.lst [.tup [.str "error", .ref μ.length]])) (μ ++ [.lst ((prs ps).map pD)]) := by
          simp [fnM, en0, mSeq, mIfS, mTb, mTru, mBin, mVar, mC, mAsg, mRet, mRetN, mEx, mNext, mIf, mCB, mCons, mNil, mTup, mLst, mAndT, mOrT, mNotT, mAnd, mOr, mNot, mChain, mCall, callR, oName, oTup, oCons, oNil, oSub, Res.seq, MP.f1, f2, fInt, fAbs, fMax, fMin, fGt, fLt, fLe, fGe, fSub, fI0, truD, mNo, mSo, mSl, slD]
        show sealR μ (match mRet (mLst (mCons (mTup (mCons (mC (.str "error")) (mCons (mVar 2) mNil))) mNil)) [some (.str w), some (.lst (ps.map .str)), some (.ref μ.length), x', y'] (μ ++ [.lst ((prs ps).map pD)]) with
            | .ok (.rt d) μ' => .ok d μ'
            | .ok (.nx _) μ' => .ok .non μ'
            | .exc C x _ μ' => .exc C x [] μ'
            | _ => .stuck) = _
        rw [e]
        refine seal_cut (μ := μ) (μ1 := μ) (cs := [.lst ((prs ps).map pD)]) rfl (fun n c' h => .inl h) ?_
        have hg : (μ ++ [Cell.lst ((prs ps).map pD)])[μ.length]? = some (.lst ((prs ps).map pD)) := by simp
        rw [show (40 : Nat) = 35 + 2 + 1 + 1 + 1 from rfl, frz_lst, List.mapM_cons, frz_tup, List.mapM_cons, frz_str, List.mapM_cons, frz_ref (Nat.lt_irrefl _) hg, frz_prs]
        rfl
      | false =>
        obtain ⟨d', h3⟩ := l2 ho
        rw [h3]
        exact seal_cut (μ := μ) (μ1 := μ) (cs := [.lst d']) rfl (fun n c' h => .inl h) (frz_nil (k := 39))
end Lw
end
set_option Elab.async false
set_option linter.all false
set_option maxRecDepth 100000
set_option maxHeartbeats 4000000
noncomputable section
namespace Lw
open PySem PySem.Spec PyProof.Rows L2 MP
theorem strsOf_map : ∀ l : List Str, strsOf (l.map D.str) = some l
  | [] => rfl
  | z :: l => by rw [List.map_cons, strsOf, strsOf_map l]; rfl
theorem join_sum {s : Str} : ∀ {ys : List Str}, ys ≠ [] → (ys.map (·.length)).sum + ys.length * s.length = (Str.join s ys).length + s.length
  | [], h => absurd rfl h
  | [x], _ => by simp [Str.join]
  | x :: y :: r, _ => by
    have ih := join_sum (s := s) (ys := y :: r) (by simp)
    show _ = (x ++ s ++ Str.join s (y :: r)).length + s.length
    rw [Str.length_append, Str.length_append, List.map_cons, List.sum_cons, List.length_cons, Nat.succ_mul]
    omega
theorem join_prs {s : Str} : ∀ {ps : List Str} {n : Nat}, ps.length = 2 * n → Str.join s ((prs ps).map fun p => p.1 ++ s ++ p.2) = Str.join s ps
  | [], _, _ => rfl
  | [a], n, h => by simp at h; omega
  | [a, b], _, _ => rfl
  | [a, b, c], n, h => by simp at h; omega
  | a :: b :: c :: d :: r, n, h => by
    have ih := join_prs (s := s) (ps := c :: d :: r) (n := n - 1) (by simp at h ⊢; omega)
    rw [prs, prs, List.map_cons, List.map_cons]
    rw [prs, List.map_cons] at ih
    show (a ++ s ++ b) ++ s ++ Str.join s (_ :: _) = a ++ s ++ (b ++ s ++ Str.join s (c :: d :: r))
    rw [ih]
    simp only [Str.append_assoc]
theorem e_show1 {w : Str} {μ : Mem} (h : w ≠ "error") : f_show_told [.tup [.str w]] μ = .ok (.str w) μ := by
  unfold f_show_told m_show_told
  have e1 : ∀ μ, fIx (.tup [.str w]) (.int 0) μ = .ok (.str w) μ := fun μ => rfl
  simp [fnM, en0, mSeq, mIfS, mTb, mTru, mBin, mVar, mC, mAsg, mRet, mRetN, mEx, mNext, mIf, mCB, mCons, mNil, mTup, mLst, mAndT, mOrT, mNotT, mAnd, mOr, mNot, mChain, mCall, callR, oName, oTup, oCons, oNil, oSub, Res.seq, MP.f1, f2, fInt, fAbs, fMax, fMin, fGt, fLt, fLe, fGe, fSub, fI0, truD, mNo, mSo, mSl, slD, e1, e_nes, h]
theorem e_join {s : Str} {ys : List Str} {μ : Mem} (hl : ys ≠ []) (hz : (Str.join s ys).length + s.length ≤ 16777216) : txtF gJoin (.str s) [.lst (ys.map .str)] μ = .ok (.str (Str.join s ys)) μ := by
  have h1 := join_sum (s := s) hl
  unfold txtF gJoin
  have e : (viewS μ (.lst (ys.map D.str))).bind strsOf = some ys := strsOf_map ys
  simp only [e]
  rw [if_pos ⟨by omega, by rw [Txt.join, StrLaws.glued_eq_join]; omega⟩]
  simp only [Txt.join, StrLaws.glued_eq_join]
def gl (p : Str × Str) : Str := p.1 ++ " " ++ p.2
theorem e_show2 {l : List (Str × Str)} {μ : Mem} (hl : l ≠ []) (hz : (Str.join " " (l.map gl)).length ≤ 16000000) : f_show_told [.tup [.str "error", .lst (l.map pD)]] μ = .ok (.str (Str.join " " (l.map gl))) μ := by
  have e1 : ∀ μ, fIx (.tup [.str "error", .lst (l.map pD)]) (.int 0) μ = .ok (.str "error") μ := fun μ => rfl
  have e2 : ∀ μ, fIx (.tup [.str "error", .lst (l.map pD)]) (.int 1) μ = .ok (.lst (l.map pD)) μ := fun μ => rfl
  have hs1 : (" " : Str).length = 1 := by decide
  have hlen : l.length ≤ 16000001 := by
    have h1 := join_sum (s := " ") (ys := l.map gl) (by simpa using hl)
    rw [List.length_map, hs1] at h1
    omega
  have hp : ∀ p ∈ l, (gl p).length ≤ 16000000 := fun p h => Nat.le_trans (join_len (s := " ") (List.mem_map.mpr ⟨p, h, rfl⟩)) hz
  have hc : ∀ e0 : En, e0.length = 3 → loopC none (oTup 2 (oCons (oName 1) (oCons (oName 2) oNil))) mYes (mJs [(mFmt (mVar 1)), (mC (.str " ")), (mFmt (mVar 2))] Str.empty) e0 (l.map pD) [] μ = .ok ((l.map gl).map D.str) μ := by
    intro e0 he
    rw [loopC_g (ge := fun d => match d with | .tup [a, b] => (e0.set 1 (some a)).set 2 (some b) | _ => e0) (fm := fun d => match d with | .tup [.str a, .str b] => .str (a ++ " " ++ b) | d => d) _ _ (fun d hd => ?_) (by simp; omega)]
    · rw [List.nil_append, List.map_map, List.map_map]
      rfl
    · obtain ⟨p, hpm, rfl⟩ := List.mem_map.mp hd
      refine ⟨rfl, rfl, ?_⟩
      have hz2 := hp p hpm
      unfold gl at hz2
      rw [Str.length_append, Str.length_append, hs1] at hz2
      have g1 : ((e0.set 1 (some (.str p.1))).set 2 (some (.str p.2)))[1]? = some (some (.str p.1)) := by rw [List.getElem?_set_ne (by decide), List.getElem?_set_self (by omega)]
      have g2 : ((e0.set 1 (some (.str p.1))).set 2 (some (.str p.2)))[2]? = some (some (.str p.2)) := List.getElem?_set_self (by rw [List.length_set]; omega)
      show mJs [(mFmt (mVar 1)), (mC (.str " ")), (mFmt (mVar 2))] Str.empty ((e0.set 1 (some (.str p.1))).set 2 (some (.str p.2))) μ = .ok (.str (p.1 ++ " " ++ p.2)) μ
      have c1 : (Str.empty ++ p.1).length ≤ 16777216 := by rw [Str.empty_append]; omega
      have c2 : (p.1 ++ " ").length ≤ 16777216 := by rw [Str.length_append, hs1]; omega
      have c3 : (p.1 ++ " " ++ p.2).length ≤ 16777216 := by rw [Str.length_append, Str.length_append, hs1]; omega
      simp only [mJs, mFmt, mVar, g1, g2, mC, Res.bind_ok, c1, c2, c3, if_true, Str.empty_append]
      rw [if_pos (show p.1.length ≤ 16777216 by omega)]
  have hj := e_join (s := " ") (ys := l.map gl) (μ := μ) (by simpa using hl) (by rw [hs1]; omega)
  have ht : isTxt μ (.str " ") := ⟨_, rfl⟩
  unfold f_show_told m_show_told
  simp [-List.map_map, fnM, en0, mSeq, mIfS, mTb, mTru, mBin, mVar, mC, mAsg, mRet, mRetN, mEx, mNext, mIf, mCB, mCons, mNil, mTup, mLst, mAndT, mOrT, mNotT, mAnd, mOr, mNot, mChain, mCall, callR, oName, oTup, oCons, oNil, oSub, Res.seq, MP.f1, f2, fInt, fAbs, fMax, fMin, fGt, fLt, fLe, fGe, fSub, fI0, truD, mNo, mSo, mSl, slD, e1, e2, e_nes, mBMc, ht, mLc, mIt, viewL, gOf, wipeE, hc, hj]
end Lw
end
set_option Elab.async false
set_option linter.all false
set_option maxRecDepth 100000
set_option maxHeartbeats 4000000
noncomputable section
namespace Lw
open PySem PySem.Spec PyProof.Rows L2 MP
/-- the chain's words and names -/
theorem okF_even : ∀ (n i : Nat) (ps : List Str), ps.length = 2 * n → okF i ps = (((ev ps).zipIdx i).all (fun p => wOk p.2 p.1) && (od ps).all isT)
  | 0, i, [], _ => rfl
  | n + 1, i, a :: b :: r, h => by
    have ih := okF_even n (i + 1) r (by simp at h; omega)
    rw [okF, ih, ev, od, List.zipIdx_cons, List.all_cons, List.all_cons]
    cases wOk i a <;> cases isT b <;> simp
  | n + 1, i, [a], h => by simp at h; omega
  | n + 1, i, [], h => by simp at h
  | 0, i, a :: r, h => by simp at h
def isW (a : Str) : Bool := decide (a ∈ ([("during" : Str), "from"] : List Str))
theorem all_wOk : ∀ (i : Nat) (l : List Str), ((l.zipIdx (i + 1)).all fun p => wOk p.2 p.1) = l.all isW
  | _, [] => rfl
  | i, a :: l => by
    rw [List.zipIdx_cons, List.all_cons, List.all_cons, all_wOk (i + 1) l]
    congr 1
    rw [Bool.eq_iff_iff]
    simp [wOk, isW]
theorem loop_bools {i : Nat} {m : ME} {e0 : En} {μ : Mem} {f : Str → Bool} {l : List Str} (h : ∀ z ∈ l, m (e0.set i (some (.str z))) μ = .ok (.bl (f z)) μ) (hl : l.length ≤ 16777216) : loopC none (oName i) mYes m e0 (l.map D.str) [] μ = .ok ((l.map f).map D.bl) μ := by
  rw [loopC_g (ge := fun d => e0.set i (some d)) (fm := fun d => match d with | .str z => .bl (f z) | d => d) _ _ (fun d hd => ?_) (by simpa using hl)]
  · rw [List.nil_append, List.map_map, List.map_map]
    rfl
  · obtain ⟨z, hz, rfl⟩ := List.mem_map.mp hd
    exact ⟨rfl, rfl, h z hz⟩
theorem bls_map2 : ∀ l : List Bool, blsOf (l.map D.bl) = some l
  | [] => rfl
  | b :: l => by rw [List.map_cons, blsOf, bls_map2 l]; rfl
theorem e_all {l : List Str} {f : Str → Bool} {μ : Mem} : fAll [.lst ((l.map f).map D.bl)] μ = .ok (.bl (l.all f)) μ := by
  have : (viewL μ (.lst ((l.map f).map D.bl))).bind blsOf = some (l.map f) := bls_map2 _
  unfold fAll MP.f1
  simp only [this]
  rw [List.all_map]
  rfl
theorem od_mem {β : Type} {z : β} : ∀ {l : List β}, z ∈ od l → z ∈ l
  | [], h => h
  | [_], h => by cases h
  | a :: b :: r, h => by
    rcases List.mem_cons.mp (show z ∈ b :: od r from h) with e | e
    · rw [e]; simp
    · have := od_mem e; simp [this]
theorem cut1 (ds : List D) : MP.cutD ds (some 1) none = ds.drop 1 := by
  unfold MP.cutD
  have h1 : HT.sIx ds.length 0 (some 1) = min 1 ds.length := rfl
  have h2 : HT.sIx ds.length ds.length none = ds.length := rfl
  rw [h1, h2]
  cases ds with
  | nil => rfl
  | cons d ds =>
    have : min 1 (d :: ds).length = 1 := by simp
    rw [this]
    simp
theorem e_read {w : Str} {μ : Mem} (hw : w.length ≤ 1000000) (hk : Sk w) : f_read_told [.str w] μ = match told w with
    | some d => .ok d μ
    | none => .exc "Unreadable" (.str w) [] μ := by
  unfold f_read_told told
  by_cases h0 : w = "left" ∨ w = "ended"
  · rw [if_pos h0]
    have := in_tup (a := w) (l := ["ended", "left"]) (neg := false) (μ := μ)
    have h0' : w ∈ ([("ended" : Str), "left"] : List Str) := by rcases h0 with z | z <;> simp [z]
    simp [h0'] at this
    unfold m_read_told
    simp [fnM, en0, mSeq, mIfS, mTb, mTru, mBin, mVar, mC, mAsg, mRet, mRetN, mEx, mNext, mIf, mCB, mCons, mNil, mTup, mLst, mAndT, mOrT, mNotT, mAnd, mOr, mNot, mChain, mCall, callR, oName, oTup, oCons, oNil, oSub, Res.seq, MP.f1, f2, fInt, fAbs, fMax, fMin, fGt, fLt, fLe, fGe, fSub, fI0, truD, mNo, mSo, mSl, slD, this]
  · rw [if_neg h0]
    have hs := gSplit_ok (w := w) (s := " ") (by decide) hw
    have hp : ∀ p ∈ Txt.split w " ", p.length ≤ 16777216 ∧ Sk p := fun p h => ⟨Nat.le_trans (split_len h) (by omega), split_sk hk h⟩
    have hl : (Txt.split w " ").length ≤ 1000002 := Nat.le_trans (PyProof.Rows.split_le w " ") (by omega)
    have hj : Str.join " " (Txt.split w " ") = w := StrLaws.join_split w " "
    have hne := split_ne w " "
    generalize Txt.split w " " = ps at hs hp hl hj hne ⊢
    have h0' : ¬ (w ∈ ([("ended" : Str), "left"] : List Str)) := by
      intro h
      simp at h
      exact h0 h.symm
    have ein := in_tup (a := w) (l := ["ended", "left"]) (neg := false) (μ := μ)
    simp [h0'] at ein
    have ht : isTxt μ (.str w) := ⟨w, rfl⟩
    have hpos : 0 < ps.length := List.length_pos_iff.mpr hne
    have e1 : ∀ e : En, e[1]? = some (some (.lst (ps.map .str))) → mSt (mVar 1) none (some 2) e μ = .ok (.lst ((ev ps).map .str)) μ := fun e he => by
      have : (stD (ps.map D.str) none (some 2)) = (ev ps).map .str := by rw [st_ev, ev_map]
      have hl2 : ((ev ps).map D.str).length ≤ 16777216 := by rw [List.length_map, ev_len]; omega
      simp only [mSt, mVar, he, Res.bind_ok, viewL, this]
      rw [if_pos hl2]
    have e2 : ∀ e : En, e[1]? = some (some (.lst (ps.map .str))) → mSt (mVar 1) (some 1) (some 2) e μ = .ok (.lst ((od ps).map .str)) μ := fun e he => by
      have : (stD (ps.map D.str) (some 1) (some 2)) = (od ps).map .str := by rw [st_od _ (by simpa using hpos), od_map]
      have hl2 : ((od ps).map D.str).length ≤ 16777216 := by rw [List.length_map, od_len]; omega
      simp only [mSt, mVar, he, Res.bind_ok, viewL, this]
      rw [if_pos hl2]
    have hevl := ev_len ps
    have hodl := od_len ps
    have elen : ∀ (l : List Str) μ, fLen [.lst (l.map .str)] μ = .ok (.int (l.length : Nat)) μ := fun l μ => by simp [fnM, en0, mSeq, mIfS, mTb, mTru, mBin, mVar, mC, mAsg, mRet, mRetN, mEx, mNext, mIf, mCB, mCons, mNil, mTup, mLst, mPar, mAndT, mOrT, mNotT, mAnd, mOr, mNot, mChain, mCall, callR, oName, oTup, oCons, oNil, oSub, Res.seq, MP.f1, f2, fLen, lenD, fInt, fAbs, fMax, fMin, fIx, ixD, viewS, viewT, viewL, fGt, fLt, fLe, fGe, fSub, fI0, atI, ixN, truD, mNo, mSo, mSl, slD, fLen]
    obtain ⟨a0, rest, hev⟩ : ∃ a0 rest, ev ps = a0 :: rest := by
      cases q : ev ps with
      | nil => rw [q] at hevl; simp at hevl; omega
      | cons a r => exact ⟨a, r, rfl⟩
    have e3 : ∀ μ, fIx (.lst ((ev ps).map .str)) (.int 0) μ = .ok (.str a0) μ := fun μ => e_ix (k := 0) (by rw [hev]; rfl) rfl
    have hc1 : ∀ e0 : En, e0.length = 7 → loopC none (oName 5) mYes (mCall 1 f_is_name (mCons (mVar 5) mNil)) e0 ((od ps).map D.str) [] μ = .ok (((od ps).map isT).map D.bl) μ := fun e0 he => by
      refine loop_bools (fun z hz => ?_) (by omega)
      have g : (e0.set 5 (some (.str z)))[5]? = some (some (.str z)) := List.getElem?_set_self (by omega)
      have hzm : z ∈ ps := od_mem hz
      simp [fnM, en0, mSeq, mIfS, mTb, mTru, mBin, mVar, mC, mAsg, mRet, mRetN, mEx, mNext, mIf, mCB, mCons, mNil, mTup, mLst, mAndT, mOrT, mNotT, mAnd, mOr, mNot, mChain, mCall, callR, oName, oTup, oCons, oNil, oSub, Res.seq, MP.f1, f2, fInt, fAbs, fMax, fMin, fGt, fLt, fLe, fGe, fSub, fI0, truD, mNo, mSo, mSl, slD, g, e_is_name (hp z hzm).1]
    have hc2 : ∀ (e0 : En), e0.length = 7 → loopC none (oName 6) mYes (mBin (fIn false) (mVar 6) (mTup (mCons (mC (.str "during")) (mCons (mC (.str "from")) mNil)))) e0 (rest.map D.str) [] μ = .ok ((rest.map isW).map D.bl) μ := fun e0 he => by
      refine loop_bools (fun z hz => ?_) (by rw [hev] at hevl; simp at hevl; omega)
      have g : (e0.set 6 (some (.str z)))[6]? = some (some (.str z)) := List.getElem?_set_self (by omega)
      have := in_tup (a := z) (l := ["during", "from"]) (neg := false) (μ := μ)
      simp at this
      simp [fnM, en0, mSeq, mIfS, mTb, mTru, mBin, mVar, mC, mAsg, mRet, mRetN, mEx, mNext, mIf, mCB, mCons, mNil, mTup, mLst, mAndT, mOrT, mNotT, mAnd, mOr, mNot, mChain, mCall, callR, oName, oTup, oCons, oNil, oSub, Res.seq, MP.f1, f2, fInt, fAbs, fMax, fMin, fGt, fLt, fLe, fGe, fSub, fI0, truD, mNo, mSo, mSl, slD, g, this, isW]
    have hcut : MP.cutD ((ev ps).map .str) (some 1) none = rest.map D.str := by rw [cut1, hev]; rfl
    by_cases h1 : ps.length % 2 = 1
    · rw [if_pos h1]
      have hne2 : ¬ (((ev ps).length : Int) = ((od ps).length : Int)) := by omega
      unfold m_read_told
      simp [fnM, en0, mSeq, mIfS, mTb, mTru, mBin, mVar, mC, mAsg, mRet, mRetN, mEx, mNext, mIf, mCB, mCons, mNil, mTup, mLst, mAndT, mOrT, mNotT, mAnd, mOr, mNot, mChain, mCall, callR, oName, oTup, oCons, oNil, oSub, Res.seq, MP.f1, f2, fInt, fAbs, fMax, fMin, fGt, fLt, fLe, fGe, fSub, fI0, truD, mNo, mSo, mSl, slD, ein, mBMc, ht, fSplit, hs, mPar, e1, e2, elen, e_nei, hne2, mRaise]
    · rw [if_neg h1]
      obtain ⟨n, hn⟩ : ∃ n, ps.length = 2 * n := ⟨ps.length / 2, by omega⟩
      have heq : ((ev ps).length : Int) = ((od ps).length : Int) := by omega
      have hok : okF 0 ps = (decide (a0 = "told") && (rest.all isW) && (od ps).all isT) := by
        rw [okF_even n 0 ps hn, hev, List.zipIdx_cons, List.all_cons, all_wOk 0 rest]
        congr 2
      rw [hok]
      by_cases k1 : a0 = "told"
      · cases k2 : (od ps).all isT with
        | false =>
          unfold m_read_told
          simp [-List.map_map, fnM, en0, mSeq, mIfS, mTb, mTru, mBin, mVar, mC, mAsg, mRet, mRetN, mEx, mNext, mIf, mCB, mCons, mNil, mTup, mLst, mAndT, mOrT, mNotT, mAnd, mOr, mNot, mChain, mCall, callR, oName, oTup, oCons, oNil, oSub, Res.seq, MP.f1, f2, fInt, fAbs, fMax, fMin, fGt, fLt, fLe, fGe, fSub, fI0, truD, mNo, mSo, mSl, slD, ein, mBMc, ht, fSplit, hs, mPar, e1, e2, elen, e_nei, heq, mRaise, e3, e_nes, k1, mLc, mIt, viewL, gOf, wipeE, hc1, e_all, k2]
        | true =>
          cases k3 : rest.all isW with
          | false =>
            unfold m_read_told
            simp [-List.map_map, -List.all_eq_true, -List.all_eq_false, -List.mem_cons, fnM, en0, mSeq, mIfS, mTb, mTru, mBin, mVar, mC, mAsg, mRet, mRetN, mEx, mNext, mIf, mCB, mCons, mNil, mTup, mLst, mAndT, mOrT, mNotT, mAnd, mOr, mNot, mChain, mCall, callR, oName, oTup, oCons, oNil, oSub, Res.seq, MP.f1, f2, fInt, fAbs, fMax, fMin, fGt, fLt, fLe, fGe, fSub, fI0, truD, mNo, mSo, mSl, slD, ein, mBMc, ht, fSplit, hs, mPar, e1, e2, elen, e_nei, heq, mRaise, e3, e_nes, k1, mLc, mIt, viewL, gOf, wipeE, hc1, hc2, e_all, k2, k3, hcut]
          | true =>
            have hprs : prs ps ≠ [] := by
              intro z
              have : (prs ps).length = 0 := by rw [z]; rfl
              rw [prs_eq, List.length_zip] at this
              omega
            have hjoin : Str.join " " ((prs ps).map gl) = w := (join_prs (s := " ") hn).trans hj
            have hzip : zipD ((ev ps).map .str) ((od ps).map .str) = (prs ps).map pD := by
              rw [prs_eq]
              unfold zipD pD
              rw [List.zip_map, List.map_map]
              rfl
            have eshow := fun μ => e_show2 (l := prs ps) (μ := μ) hprs (by rw [hjoin]; omega)
            rw [hjoin] at eshow
            have heqN : (ev ps).length = (od ps).length := by omega
            unfold m_read_told
            simp [-List.map_map, -List.all_eq_true, -List.all_eq_false, -List.mem_cons, fnM, en0, mSeq, mIfS, mTb, mTru, mBin, mVar, mC, mAsg, mRet, mRetN, mEx, mNext, mIf, mCB, mCons, mNil, mTup, mLst, mAndT, mOrT, mNotT, mAnd, mOr, mNot, mChain, mCall, callR, oName, oTup, oCons, oNil, oSub, Res.seq, MP.f1, f2, fInt, fAbs, fMax, fMin, fGt, fLt, fLe, fGe, fSub, fI0, truD, mNo, mSo, mSl, slD, ein, mBMc, ht, fSplit, hs, mPar, e1, e2, elen, e_nei, heq, heqN, mRaise, e3, e_nes, k1, mLc, mIt, viewL, gOf, wipeE, hc1, hc2, e_all, k2, k3, hcut, mZip, hzip, eshow]
      · unfold m_read_told
        simp [fnM, en0, mSeq, mIfS, mTb, mTru, mBin, mVar, mC, mAsg, mRet, mRetN, mEx, mNext, mIf, mCB, mCons, mNil, mTup, mLst, mAndT, mOrT, mNotT, mAnd, mOr, mNot, mChain, mCall, callR, oName, oTup, oCons, oNil, oSub, Res.seq, MP.f1, f2, fInt, fAbs, fMax, fMin, fGt, fLt, fLe, fGe, fSub, fI0, truD, mNo, mSo, mSl, slD, ein, mBMc, ht, fSplit, hs, mPar, e1, e2, elen, e_nei, heq, mRaise, e3, e_nes, k1]
end Lw
end
set_option Elab.async false
set_option linter.all false
set_option maxRecDepth 100000
set_option maxHeartbeats 4000000
noncomputable section
namespace Lw
open PySem PySem.Spec PyProof.Rows L2 MP
theorem told_cases {w : Str} {d : D} (h : told w = some d) : ((w = "left" ∨ w = "ended") ∧ d = .tup [.str w]) ∨ (¬ (w = "left" ∨ w = "ended") ∧ (∃ n, (Txt.split w " ").length = 2 * n ∧ 0 < n) ∧ d = .tup [.str "error", .lst ((prs (Txt.split w " ")).map pD)]) := by
  unfold told at h
  split at h
  · rename_i c
    cases h
    exact .inl ⟨c, rfl⟩
  · rename_i c
    split at h
    · cases h
    · rename_i c2
      split at h
      · cases h
        have := split_ne w " "
        have h3 : 0 < (Txt.split w " ").length := List.length_pos_iff.mpr this
        exact .inr ⟨c, ⟨(Txt.split w " ").length / 2, by omega, by omega⟩, rfl⟩
      · cases h
theorem e_show {w : Str} {d : D} {μ : Mem} (hw : w.length ≤ 1000000) (h : told w = some d) : f_show_told [d] μ = .ok (.str w) μ := by
  rcases told_cases h with ⟨c, rfl⟩ | ⟨_, ⟨n, hn, h0⟩, rfl⟩
  · refine e_show1 ?_
    rcases c with rfl | rfl <;> decide
  · have hjoin : Str.join " " ((prs (Txt.split w " ")).map gl) = w := (join_prs (s := " ") hn).trans (StrLaws.join_split w " ")
    have hprs : prs (Txt.split w " ") ≠ [] := by
      intro z
      have : (prs (Txt.split w " ")).length = 0 := by rw [z]; rfl
      rw [prs_eq, List.length_zip, ev_len, od_len] at this
      omega
    have := e_show2 (l := prs (Txt.split w " ")) (μ := μ) hprs (by rw [hjoin]; omega)
    rwa [hjoin] at this
theorem e_caught {w : Str} {way : Int} {μ : Mem} (hw : w.length ≤ 1000000) (hk : Sk w) : f__law_caught [.str w, .int way] μ = .ok (.lst (told w).toList) μ := by
  have er := e_read (w := w) (μ := μ) hw hk
  unfold f__law_caught m__law_caught
  cases q : told w with
  | some d =>
    rw [q] at er
    have es := e_show (μ := μ) hw q
    have ew : eqD (.str w) (.str w) μ = some true := by rw [eqD_str]; simp
    by_cases h1 : way = 0
    · simp [fnM, en0, mSeq, mIfS, mTb, mTru, mBin, mVar, mC, mAsg, mRet, mRetN, mEx, mNext, mIf, mCB, mCons, mNil, mTup, mLst, mAndT, mOrT, mNotT, mAnd, mOr, mNot, mChain, mCall, callR, oName, oTup, oCons, oNil, oSub, Res.seq, MP.f1, f2, fInt, fAbs, fMax, fMin, fGt, fLt, fLe, fGe, fSub, fI0, truD, mNo, mSo, mSl, slD, mTry, e_eqi, h1, er, es, e_eqs]
    · simp [fnM, en0, mSeq, mIfS, mTb, mTru, mBin, mVar, mC, mAsg, mRet, mRetN, mEx, mNext, mIf, mCB, mCons, mNil, mTup, mLst, mAndT, mOrT, mNotT, mAnd, mOr, mNot, mChain, mCall, callR, oName, oTup, oCons, oNil, oSub, Res.seq, MP.f1, f2, fInt, fAbs, fMax, fMin, fGt, fLt, fLe, fGe, fSub, fI0, truD, mNo, mSo, mSl, slD, mTry, e_eqi, h1, er, es, e_eqs]
  | none =>
    rw [q] at er
    by_cases h1 : way = 0
    · simp [fnM, en0, mSeq, mIfS, mTb, mTru, mBin, mVar, mC, mAsg, mRet, mRetN, mEx, mNext, mIf, mCB, mCons, mNil, mTup, mLst, mAndT, mOrT, mNotT, mAnd, mOr, mNot, mChain, mCall, callR, oName, oTup, oCons, oNil, oSub, Res.seq, MP.f1, f2, fInt, fAbs, fMax, fMin, fGt, fLt, fLe, fGe, fSub, fI0, truD, mNo, mSo, mSl, slD, mTry, e_eqi, h1, er, e_nes, unset, unFl]
    · simp [fnM, en0, mSeq, mIfS, mTb, mTru, mBin, mVar, mC, mAsg, mRet, mRetN, mEx, mNext, mIf, mCB, mCons, mNil, mTup, mLst, mAndT, mOrT, mNotT, mAnd, mOr, mNot, mChain, mCall, callR, oName, oTup, oCons, oNil, oSub, Res.seq, MP.f1, f2, fInt, fAbs, fMax, fMin, fGt, fLt, fLe, fGe, fSub, fI0, truD, mNo, mSo, mSl, slD, mTry, e_eqi, h1, er, e_nes, unset, unFl]
/-! ### the same data -/
theorem dat_lst {k : Nat} {μ : Mem} {ds : List D} : dat (k + 1) μ (.lst ds) = (ds.mapM (dat k μ)).map .list := by rw [dat]
theorem dat_tup {k : Nat} {μ : Mem} {ds : List D} : dat (k + 1) μ (.tup ds) = (ds.mapM (dat k μ)).map .tuple := by rw [dat]
theorem dat_str {k : Nat} {μ : Mem} {z : Str} : dat (k + 1) μ (.str z) = some (.str z) := by rw [dat]
def pP (p : Str × Str) : PyData := .tuple [.str p.1, .str p.2]
theorem dat_prs (k : Nat) (μ : Mem) : ∀ l : List (Str × Str), (l.map pD).mapM (dat (k + 2) μ) = some (l.map pP)
  | [] => rfl
  | z :: l => by
    rw [List.map_cons, List.mapM_cons, dat_prs k μ l, pD, dat_tup, List.mapM_cons, dat_str, List.mapM_cons, dat_str]
    rfl
theorem ok_str {z : Str} (h : Sk z) : PyData.canLay0 (.str z) = true := h.ok
theorem ok_prs : ∀ l : List (Str × Str), (∀ p ∈ l, Sk p.1 ∧ Sk p.2) → PyData.canLayAll0 (l.map pP) = true
  | [], _ => rfl
  | p :: l, h => by
    obtain ⟨h1, h2⟩ := h p List.mem_cons_self
    show (PyData.canLay0 (pP p) && PyData.canLayAll0 (l.map pP)) = true
    rw [ok_prs l fun q hq => h q (List.mem_cons_of_mem _ hq), Bool.and_true]
    show (PyData.canLay0 (.str p.1) && (PyData.canLay0 (.str p.2) && true)) = true
    rw [ok_str h1, ok_str h2]
    rfl
theorem dep_prs : ∀ l : List (Str × Str), PyData.depthAll (l.map pP) ≤ 1
  | [] => by decide
  | p :: l => by
    show max (PyData.depth (pP p)) (PyData.depthAll (l.map pP)) ≤ 1
    have := dep_prs l
    have h2 : PyData.depth (pP p) = 1 := rfl
    omega
theorem ev_mem {β : Type} {z : β} : ∀ {l : List β}, z ∈ ev l → z ∈ l
  | [], h => h
  | [_], h => h
  | a :: b :: r, h => by
    rcases List.mem_cons.mp (show z ∈ a :: ev r from h) with e | e
    · rw [e]; simp
    · have := ev_mem e; simp [this]
theorem told_same {w : Str} {μ : Mem} (hk : Sk w) : fNe (.lst (told w).toList) (.lst (told w).toList) μ = .ok (.bl false) μ := by
  have fin : ∀ {p : PyData}, dat 40 μ (.lst (told w).toList) = some p → PyData.canLay0 p = true → PyData.depth p ≤ 64 → fNe (.lst (told w).toList) (.lst (told w).toList) μ = .ok (.bl false) μ := fun {p} h1 h2 h3 => by
    have hs : SeqAt.shaped p = true := by unfold SeqAt.shaped; rw [h2, decide_eq_true h3]; rfl
    have e : eqD (.lst (told w).toList) (.lst (told w).toList) μ = some true := by
      unfold eqD
      rw [h1]
      have : scalD (.lst (told w).toList) (.lst (told w).toList) = none := rfl
      rw [this]
      dsimp only
      rw [hs, SeqAt.eqv_refl p h2]
      rfl
    unfold fNe
    rw [e]
    rfl
  cases q : told w with
  | none =>
    rw [q] at fin
    exact fin (p := .list []) (by rw [show (40 : Nat) = 39 + 1 from rfl]; exact dat_lst) rfl (by decide)
  | some d =>
    rw [q] at fin
    rcases told_cases q with ⟨_, rfl⟩ | ⟨_, ⟨n, hn, h0⟩, rfl⟩
    · refine fin (p := .list [.tuple [.str w]]) ?_ ?_ (by show max (max (PyData.depth (.str w)) 0 + 1) 0 + 1 ≤ 64; have : PyData.depth (.str w) = 0 := rfl; omega)
      · rw [show (40 : Nat) = 37 + 1 + 1 + 1 from rfl, Option.toList_some, dat_lst, List.mapM_cons, dat_tup, List.mapM_cons, dat_str]
        rfl
      · show ((PyData.canLay0 (.str w) && true) && true) = true
        rw [ok_str hk]; rfl
    · refine fin (p := .list [.tuple [.str "error", .list ((prs (Txt.split w " ")).map pP)]]) ?_ ?_ ?_
      · rw [show (40 : Nat) = 35 + 2 + 1 + 1 + 1 from rfl, Option.toList_some, dat_lst, List.mapM_cons, dat_tup, List.mapM_cons, dat_str, List.mapM_cons, dat_lst, dat_prs]
        rfl
      · show (((PyData.canLay0 (.str "error") && (PyData.canLayAll0 ((prs (Txt.split w " ")).map pP) && true))) && true) = true
        rw [ok_prs, ok_str (show Sk "error" by unfold Sk; decide)]
        · rfl
        · intro p hp
          rw [prs_eq] at hp
          obtain ⟨h1, h2⟩ := List.of_mem_zip (a := p.1) (b := p.2) hp
          exact ⟨split_sk hk (ev_mem h1), split_sk hk (od_mem h2)⟩
      · show max (max (PyData.depth (.str "error")) (max (PyData.depthAll ((prs (Txt.split w " ")).map pP) + 1) 0) + 1) 0 + 1 ≤ 64
        have := dep_prs (prs (Txt.split w " "))
        have h2 : PyData.depth (.str "error") = 0 := rfl
        omega
end Lw
end
set_option Elab.async false
set_option linter.all false
set_option maxRecDepth 100000
set_option maxHeartbeats 4000000
noncomputable section
namespace Lw
open PySem PySem.Spec PyProof.Rows L2 MP
/-! ### draws -/
theorem loop_dr {p n i : Nat} {m : ME} {e0 : En} {P : D → Prop} : ∀ (ds acc : List D) (k : Nat) (μ : Mem), (∀ d ∈ ds, ∀ k μ, Pu p (k + n) μ → ∃ y μ', m (e0.set i (some d)) μ = .ok y μ' ∧ P y ∧ Dr p k μ μ') →
    Pu p (k + n * ds.length) μ → acc.length + ds.length ≤ 16777216 → ∃ ys μ', loopC none (oName i) mYes m e0 ds acc μ = .ok (acc ++ ys) μ' ∧ ys.length = ds.length ∧ (∀ y ∈ ys, P y) ∧ Dr p k μ μ'
  | [], acc, k, μ, _, h, _ => ⟨[], μ, by unfold loopC; simp [OkG], rfl, (fun y hy => (by cases hy)), (h.mono (by simp)).dr⟩
  | d :: ds, acc, k, μ, hm, h, hz => by
    have hz' : acc.length + ds.length + 1 ≤ 16777216 := by simpa [Nat.add_assoc] using hz
    obtain ⟨y, μ1, h1, h2, h3⟩ := hm d List.mem_cons_self (k + n * ds.length) μ (h.mono (by rw [List.length_cons, Nat.mul_succ]; omega))
    obtain ⟨ys, μ2, h4, h5, h6, h7⟩ := loop_dr ds (acc ++ [y]) k μ1 (fun d' hd => hm d' (List.mem_cons_of_mem _ hd)) h3.pu (by rw [List.length_append, List.length_singleton]; omega)
    refine ⟨y :: ys, μ2, ?_, by simp [h5], fun z hz => ?_, h3.trans h7⟩
    · unfold loopC
      have hy : ∀ e μ, mYes e μ = .ok true μ := fun _ _ => rfl
      simp only [OkG, if_true, oName, hy, Res.bind0_ok, h1]
      rw [if_pos (by omega), h4, List.append_assoc]
      rfl
    · rcases List.mem_cons.mp hz with e | e
      · rw [e]; exact h2
      · exact h6 z e
def TS_ (n : Nat) (z : Str) : Prop := z.length ≤ n ∧ Sk z
def IsS (n : Nat) (d : D) : Prop := ∃ z, d = .str z ∧ TS_ n z
theorem TS_.mono {n n' : Nat} {z : Str} (h : TS_ n z) (hn : n ≤ n') : TS_ n' z := ⟨Nat.le_trans h.1 hn, h.2⟩
theorem TS_.app {n m : Nat} {y z : Str} (h : TS_ n y) (h' : TS_ m z) : TS_ (n + m) (y ++ z) := by
  refine ⟨by rw [Str.length_append]; exact Nat.add_le_add h.1 h'.1, fun c hc => ?_⟩
  have e : tl (y ++ z) = tl y ++ tl z := by
    show (y.cps ++ z.cps).toList = _
    simp
  rw [e] at hc
  rcases List.mem_append.mp hc with q | q
  · exact h.2 c q
  · exact h'.2 c q
theorem TS_.cut {n : Nat} {z : Str} (h : TS_ n z) (lo hi : Option Int) : TS_ n (cutS z lo hi) := by
  refine ⟨Nat.le_trans (cutS_len z lo hi) h.1, fun c hc => h.2 c ?_⟩
  unfold cutS at hc
  exact List.mem_of_mem_drop (List.mem_of_mem_take hc)
theorem TS_.join {n m : Nat} {s : Str} {l : List Str} (hs : TS_ m s) (h : ∀ z ∈ l, TS_ n z) (hl : l ≠ []) : TS_ (l.length * (n + m)) (Str.join s l) := by
  induction l with
  | nil => exact absurd rfl hl
  | cons x l ih =>
    cases l with
    | nil => exact (h x List.mem_cons_self).mono (by simp)
    | cons y l =>
      have h2 := ih (fun z hz => h z (List.mem_cons_of_mem _ hz)) (by simp)
      exact (((h x List.mem_cons_self).app hs).app h2).mono (by simp only [List.length_cons, Nat.succ_mul]; omega)
theorem e_ixs {z : Str} {j : Int} {μ : Mem} (h0 : 0 ≤ j) (h1 : j < z.length) : ∃ c, c ∈ tl z ∧ fIx (.str z) (.int j) μ = .ok (.str ⟨#[c]⟩) μ := by
  have hl : j.toNat < (tl z).length := by rw [← len_tl]; omega
  refine ⟨(tl z)[j.toNat], List.getElem_mem hl, ?_⟩
  have e : ixD (.str z) (.int j) μ = some (.str ⟨#[(tl z)[j.toNat]]⟩) := by
    show (atI (tl z) j).map _ = _
    unfold atI ixN
    rw [if_pos h0, if_pos (by rw [← len_tl]; exact h1)]
    show Option.map _ ((tl z)[j.toNat]?) = _
    rw [List.getElem?_eq_getElem hl]
    rfl
  unfold fIx
  rw [e]
theorem e_ixl {ds : List D} {j : Int} {μ : Mem} (h0 : 0 ≤ j) (h1 : j < ds.length) : ∃ d, d ∈ ds ∧ fIx (.lst ds) (.int j) μ = .ok d μ := by
  have hl : j.toNat < ds.length := by omega
  exact ⟨ds[j.toNat], List.getElem_mem hl, e_ix (k := j.toNat) (List.getElem?_eq_getElem hl) (by omega)⟩
theorem one_sk {c : Nat} (h : c < 0x110000) : TS_ 1 ⟨#[c]⟩ := ⟨by show 1 ≤ 1; omega, fun c' hc' => by
  have : c' = c := by simpa using hc'
  rw [this]; exact h⟩
theorem strs_of {n : Nat} : ∀ {ys : List D}, (∀ y ∈ ys, IsS n y) → ∃ l : List Str, ys = l.map .str ∧ ∀ z ∈ l, TS_ n z
  | [], _ => ⟨[], rfl, fun z h => (by cases h)⟩
  | y :: ys, h => by
    obtain ⟨z, rfl, hz⟩ := h y List.mem_cons_self
    obtain ⟨l, rfl, hl⟩ := strs_of (ys := ys) fun y' hy => h y' (List.mem_cons_of_mem _ hy)
    refine ⟨z :: l, rfl, fun z' hz' => ?_⟩
    rcases List.mem_cons.mp hz' with e | e
    · rw [e]; exact hz
    · exact hl z' e
abbrev LL : Str := "abcdefghijklmnopqrstuvwxyz"
theorem LL_len : LL.length = 26 := by decide +kernel
theorem LL_sk : Sk LL := by unfold Sk; decide +kernel
theorem e_rg1 {m : Int} (h0 : 0 ≤ m) (h1 : m < 2 ^ 60) {a : ME} {e : En} {μ μ1 : Mem} (h : a e μ = .ok (.int m) μ1) : mRg1 a e μ = .ok (rangeD 0 m.toNat, none) μ1 := by
  unfold mRg1
  rw [h]
  exact if_pos ⟨by omega, by omega⟩
theorem e_stem {p k : Nat} {e : En} {μ : Mem} (he : e.length = 10) (h0 : e[0]? = some (some (.ref p))) (h2 : e[2]? = some (some (.str LL))) (h : Pu p (k + 8) μ) :
    ∃ z μ', mBMc isTxt (txtF gJoin) (mC (.str "")) (mCons (mLc (mRg1 (mC (.int 8))) (oName 8) mYes (mBin fIx (mVar 2) (mCall 2 f__law_coin (mCons (mVar 0) (mCons (mC (.int 26)) mNil)))) [8]) mNil) e μ = .ok (.str z) μ' ∧ TS_ 8 z ∧ Dr p k μ μ' := by
  have hw : wipeE e [8] = e.set 8 none := rfl
  obtain ⟨ys, μ1, e1, e2, e3, e4⟩ := loop_dr (p := p) (n := 1) (i := 8) (m := mBin fIx (mVar 2) (mCall 2 f__law_coin (mCons (mVar 0) (mCons (mC (.int 26)) mNil)))) (e0 := wipeE e [8]) (P := IsS 1) (rangeD 0 8) [] k μ (fun d _ k μ hp => by
    rw [hw]
    have g0 : ((e.set 8 none).set 8 (some d))[0]? = some (some (.ref p)) := by rw [List.getElem?_set_ne (by decide), List.getElem?_set_ne (by decide)]; exact h0
    have g2 : ((e.set 8 none).set 8 (some d))[2]? = some (some (.str LL)) := by rw [List.getElem?_set_ne (by decide), List.getElem?_set_ne (by decide)]; exact h2
    obtain ⟨j, μ', c1, c2, c3, c4⟩ := m_coin (m := 26) hp (by decide) (by decide)
    obtain ⟨c, c5, c6⟩ := e_ixs (z := LL) (j := j) (μ := μ') c2 (by rw [LL_len]; omega)
    refine ⟨.str ⟨#[c]⟩, μ', ?_, ⟨_, rfl, one_sk (LL_sk c c5)⟩, c4⟩
    simp only [fnM, en0, mSeq, mIfS, mTb, mTru, mBin, mVar, mC, mAsg, mRet, mRetN, mEx, mNext, mIf, mCB, mCons, mNil, mTup, mLst, mAndT, mOrT, mNotT, mAnd, mOr, mNot, mChain, mCall, callR, oName, oTup, oCons, oNil, oSub, Res.seq, MP.f1, f2, fInt, fAbs, fMax, fMin, fGt, fLt, fLe, fGe, fSub, fI0, truD, mNo, mSo, mSl, slD, g0, g2, Res.bind_ok, c1, List.length_cons, List.length_nil, if_true, c6]) (by rw [show (rangeD 0 8).length = 8 from rfl]; exact h) (by decide)
  obtain ⟨l, rfl, hl⟩ := strs_of e3
  have hll : l.length = 8 := by rw [List.length_map] at e2; exact e2
  have hne : l ≠ [] := by intro z; rw [z] at hll; cases hll
  have hj := TS_.join (s := "") (n := 1) (m := 0) ⟨by decide, by unfold Sk; decide⟩ hl hne
  rw [hll] at hj
  have h30 : ("" : Str).length = 0 := by decide
  have hjj := e_join (s := "") (ys := l) (μ := μ1) hne (by have := hj.1; omega)
  refine ⟨Str.join "" l, μ1, ?_, hj, e4⟩
  have ht : isTxt μ (.str "") := ⟨_, rfl⟩
  have hr : mRg1 (mC (.int 8)) e μ = .ok (rangeD 0 8, none) μ := e_rg1 (m := 8) (by decide) (by decide) rfl
  simp only [fnM, en0, mSeq, mIfS, mTb, mTru, mBin, mVar, mC, mAsg, mRet, mRetN, mEx, mNext, mIf, mCB, mCons, mNil, mTup, mLst, mAndT, mOrT, mNotT, mAnd, mOr, mNot, mChain, mCall, callR, oName, oTup, oCons, oNil, oSub, Res.seq, MP.f1, f2, fInt, fAbs, fMax, fMin, fGt, fLt, fLe, fGe, fSub, fI0, truD, mNo, mSo, mSl, slD, mBMc, Res.bind_ok, if_pos ht, mLc, hr, e1, List.nil_append, hjj]
end Lw
end
set_option Elab.async false
set_option linter.all false
set_option maxRecDepth 100000
set_option maxHeartbeats 4000000
noncomputable section
namespace Lw
open PySem PySem.Spec PyProof.Rows L2 MP
theorem e_int {i : Int} {μ : Mem} : fInt [.int i] μ = .ok (.int i) μ := rfl
def wds : List Str := ["step", "load", "during", "told", "from", "guard", "last", "on", "a", "b", "again", "leave", "ended"]
theorem wds_ok : ∀ z ∈ wds, TS_ 30 z := by
  intro z hz
  unfold TS_ Sk
  revert z
  decide +kernel
theorem mem_range {lo : Int} {n : Nat} {d : D} (h : d ∈ rangeD lo n) : ∃ i : Nat, i < n ∧ d = .int (lo + (i : Int)) := by
  unfold rangeD at h
  obtain ⟨i, hi, rfl⟩ := List.mem_map.mp h
  exact ⟨i, List.mem_range.mp hi, rfl⟩
theorem len_range {lo : Int} {n : Nat} : (rangeD lo n).length = n := by unfold rangeD; simp
theorem e_adds {a b : Str} {n m : Nat} {μ : Mem} (ha : TS_ n a) (hb : TS_ m b) (h : n + m ≤ 16777216) : fAdd (.str a) (.str b) μ = .ok (.str (a ++ b)) μ := by
  have : a.length + b.length ≤ sizeLine := line_of (Nat.le_trans (Nat.add_le_add ha.1 hb.1) h)
  exact if_pos this
theorem e_menu {p k : Nat} {μ : Mem} {m : Int} (h : Pu p (k + 12) μ) (h0 : 1 ≤ m) (h1 : m ≤ 6) : ∃ (l : List Str) (μ' : Mem), f__law_menu [.ref p, .int m] μ = .ok (.lst (l.map .str)) μ' ∧ l.length = m.toNat ∧ (∀ z ∈ l, TS_ 30 z) ∧ Dr p k μ μ' := by
  obtain ⟨way, μ1, a1, a2, a3, a4⟩ := m_coin (m := 3) (h.mono (show (k + 11) + 1 ≤ k + 12 by omega)) (by decide) (by decide)
  obtain ⟨z, μ2, b1, b2, b3⟩ := e_stem (p := p) (k := k + 3) (e := [some (.ref p), some (.int m), some (.str LL), some (.int way), some (.lst (wds.map .str)), none, none, none, none, none]) (μ := μ1) rfl rfl rfl (a4.pu.mono (by omega))
  have hst : ∀ e0 : En, e0.length = 10 → wipeE e0 [9] = e0.set 9 none := fun _ _ => rfl
  have i26 : ∀ i : Int, ∃ c, c < 0x110000 ∧ ∀ μ, fIx (.str LL) (.int (i % 26)) μ = .ok (.str ⟨#[c]⟩) μ := fun i => by
    obtain ⟨c, h1, h2⟩ := e_ixs (z := LL) (j := i % 26) (μ := []) (Int.emod_nonneg _ (by decide)) (by rw [LL_len]; exact Int.emod_lt_of_pos _ (by decide))
    refine ⟨c, LL_sk c h1, fun μ => ?_⟩
    unfold fIx at h2 ⊢
    cases q : ixD (.str LL) (.int (i % 26)) [] with
    | none => rw [q] at h2; cases h2
    | some d =>
      rw [q] at h2
      cases h2
      have : ixD (.str LL) (.int (i % 26)) μ = some (.str ⟨#[c]⟩) := q
      rw [this]
  have hw := wds_ok
  have i13 : ∀ i : Int, ∃ w, TS_ 30 w ∧ ∀ μ, fIx (.lst (wds.map .str)) (.int (i % 13)) μ = .ok (.str w) μ := fun i => by
    have hl : (i % 13).toNat < wds.length := by
      have h1 : 0 ≤ i % 13 := Int.emod_nonneg _ (by decide)
      have h2 : i % 13 < 13 := Int.emod_lt_of_pos _ (by decide)
      show (i % 13).toNat < 13
      omega
    have h1 : 0 ≤ i % 13 := Int.emod_nonneg _ (by decide)
    exact ⟨wds[(i % 13).toNat], hw _ (List.getElem_mem hl), fun μ => e_ix (k := (i % 13).toNat) (by rw [List.getElem?_map, List.getElem?_eq_getElem hl]; rfl) (by omega)⟩
  have emod13 : ∀ i μ, fMod (.int i) (.int 13) μ = .ok (.int (i % 13)) μ := fun i μ => fMod_ok (by decide)
  have emod26 : ∀ i μ, fMod (.int i) (.int 26) μ = .ok (.int (i % 26)) μ := fun i μ => fMod_ok (by decide)
  have ediv26 : ∀ i μ, fDiv (.int i) (.int 26) μ = .ok (.int (i / 26)) μ := fun i μ => fDiv_ok (by decide) (by decide)
  have hrg : ∀ (e : En) μ, e[1]? = some (some (.int m)) → mRg1 (mVar 1) e μ = .ok (rangeD 0 m.toNat, none) μ := fun e μ he => e_rg1 (by omega) (by omega) (by simp only [mVar, he])
  have m14 : m < 14 := by omega
  have m9 : m < 9 := by omega
  have m27 : m < 27 := by omega
  have wd : (wds.map D.str) = [.str "step", .str "load", .str "during", .str "told", .str "from", .str "guard", .str "last", .str "on", .str "a", .str "b", .str "again", .str "leave", .str "ended"] := rfl
  by_cases w0 : way = 0
  · obtain ⟨st, μ3, c1, c2, c3, c4⟩ := m_coin (m := 13) (b3.pu.mono (show k + 1 ≤ k + 3 by omega)) (by decide) (by decide)
    obtain ⟨ys, μ4, d1, d2, d3, d4⟩ := loop_dr (p := p) (n := 0) (i := 9) (m := mBin fIx (mVar 4) (mBin fMod (mCB fInt (mCons (mBin fAdd (mVar 6) (mBin fMul (mC (.int 5)) (mVar 9))) mNil)) (mC (.int 13)))) (P := IsS 30)
      (e0 := [some (.ref p), some (.int m), some (.str LL), some (.int way), some (.lst (wds.map .str)), some (.str z), some (.int st), none, none, none]) (rangeD 0 m.toNat) [] k μ3 (fun d hd k μ hp => by
        obtain ⟨i, hi, rfl⟩ := mem_range hd
        obtain ⟨w, q1, q2⟩ := i13 (st + 5 * (0 + (i : Int)))
        refine ⟨.str w, μ, ?_, ⟨w, rfl, q1⟩, (hp.mono (by omega)).dr⟩
        simp only [fnM, en0, mSeq, mIfS, mTb, mTru, mBin, mVar, mC, mAsg, mRet, mRetN, mEx, mNext, mIf, mCB, mCons, mNil, mTup, mLst, mAndT, mOrT, mNotT, mAnd, mOr, mNot, mChain, mCall, callR, oName, oTup, oCons, oNil, oSub, Res.seq, MP.f1, f2, fAbs, fMax, fMin, fGt, fLt, fLe, fGe, fSub, fI0, truD, mNo, mSo, mSl, slD, e_int, List.set_cons_succ, List.set_cons_zero, List.getElem?_cons_succ, List.getElem?_cons_zero, Res.bind_ok, fMul_l (show -(2 ^ 64) < (5 : Int) ∧ (5 : Int) < 2 ^ 64 by decide), fAdd_int, emod13, q2]) (c4.pu.mono (by omega)) (by rw [len_range]; simp; omega)
    obtain ⟨l, rfl, hl⟩ := strs_of d3
    refine ⟨l, μ4, ?_, by rw [List.length_map, len_range] at d2; exact d2, hl, ((a4.trans b3).trans c4).trans d4⟩
    rw [wd] at b1 d1
    rw [List.nil_append] at d1
    rw [w0] at b1 d1
    unfold f__law_menu m__law_menu
    simp [-List.map_map, fnM, en0, mSeq, mIfS, mTb, mTru, mBin, mVar, mC, mAsg, mRet, mRetN, mEx, mNext, mIf, mCB, mCons, mNil, mTup, mLst, mAndT, mOrT, mNotT, mAnd, mOr, mNot, mChain, mCall, callR, oName, oTup, oCons, oNil, oSub, Res.seq, MP.f1, f2, fAbs, fMax, fMin, fGt, fLt, fLe, fGe, fSub, fI0, truD, mNo, mSo, mSl, slD, e_int, a1, w0, b1, e_eqi, m14, c1, mLc, hrg, wipeE, d1]
  · by_cases w1 : way = 1
    · obtain ⟨st, μ3, c1, c2, c3, c4⟩ := m_coin (m := 9 - m) (b3.pu.mono (show k + 1 ≤ k + 3 by omega)) (by omega) (by omega)
      obtain ⟨ys, μ4, d1, d2, d3, d4⟩ := loop_dr (p := p) (n := 0) (i := 9) (m := mSl (mVar 5) mNo (mSo (mBin fAdd (mBin fAdd (mVar 6) (mVar 9)) (mC (.int 1))))) (P := IsS 30)
        (e0 := [some (.ref p), some (.int m), some (.str LL), some (.int way), some (.lst (wds.map .str)), some (.str z), some (.int st), none, none, none]) (rangeD 0 m.toNat) [] k μ3 (fun d hd k μ hp => by
          obtain ⟨i, hi, rfl⟩ := mem_range hd
          refine ⟨_, μ, ?_, ⟨_, rfl, (b2.cut none (some (st + (0 + (i : Int)) + 1))).mono (by decide)⟩, (hp.mono (by omega)).dr⟩
          simp only [fnM, en0, mSeq, mIfS, mTb, mTru, mBin, mVar, mC, mAsg, mRet, mRetN, mEx, mNext, mIf, mCB, mCons, mNil, mTup, mLst, mAndT, mOrT, mNotT, mAnd, mOr, mNot, mChain, mCall, callR, oName, oTup, oCons, oNil, oSub, Res.seq, MP.f1, f2, fAbs, fMax, fMin, fGt, fLt, fLe, fGe, fSub, fI0, truD, mNo, mSo, mSl, slD, e_int, List.set_cons_succ, List.set_cons_zero, List.getElem?_cons_succ, List.getElem?_cons_zero, Res.bind_ok, fAdd_int]) (c4.pu.mono (by omega)) (by rw [len_range]; simp; omega)
      obtain ⟨l, rfl, hl⟩ := strs_of d3
      refine ⟨l, μ4, ?_, by rw [List.length_map, len_range] at d2; exact d2, hl, ((a4.trans b3).trans c4).trans d4⟩
      rw [wd] at b1 d1
      rw [List.nil_append] at d1
      rw [w1] at b1 d1
      unfold f__law_menu m__law_menu
      simp [-List.map_map, fnM, en0, mSeq, mIfS, mTb, mTru, mBin, mVar, mC, mAsg, mRet, mRetN, mEx, mNext, mIf, mCB, mCons, mNil, mTup, mLst, mAndT, mOrT, mNotT, mAnd, mOr, mNot, mChain, mCall, callR, oName, oTup, oCons, oNil, oSub, Res.seq, MP.f1, f2, fAbs, fMax, fMin, fGt, fLt, fLe, fGe, fSub, fI0, truD, mNo, mSo, mSl, slD, e_int, a1, w1, b1, e_eqi, m9, c1, mLc, hrg, wipeE, d1]
    · obtain ⟨st, μ3, c1, c2, c3, c4⟩ := m_coin (m := 26) (b3.pu.mono (show (k + 1) + 1 ≤ k + 3 by omega)) (by decide) (by decide)
      obtain ⟨j, μ4, f1, f2, f3, f4⟩ := m_coin (m := 8) (c4.pu.mono (show k + 1 ≤ k + 1 by omega)) (by decide) (by decide)
      have ht := b2.cut none (some j)
      generalize hz : cutS z none (some j) = tail at ht
      obtain ⟨ys, μ5, d1, d2, d3, d4⟩ := loop_dr (p := p) (n := 0) (i := 9) (m := mBin fAdd (mBin fAdd (mBin fIx (mVar 2) (mBin fMod (mCB fInt (mCons (mBin fAdd (mVar 6) (mVar 9)) mNil)) (mC (.int 26)))) (mSl (mVar 5) mNo (mSo (mBin fDiv (mVar 9) (mC (.int 26)))))) (mVar 7)) (P := IsS 30)
        (e0 := [some (.ref p), some (.int m), some (.str LL), some (.int way), some (.lst (wds.map .str)), some (.str z), some (.int st), some (.str tail), none, none]) (rangeD 0 m.toNat) [] k μ4 (fun d hd k μ hp => by
          obtain ⟨i, hi, rfl⟩ := mem_range hd
          obtain ⟨c, q1, q2⟩ := i26 (st + (0 + (i : Int)))
          have t1 := one_sk q1
          have t2 := b2.cut none (some ((0 + (i : Int)) / 26))
          have t3 := t1.app t2
          refine ⟨_, μ, ?_, ⟨_, rfl, (t3.app ht).mono (by decide)⟩, (hp.mono (by omega)).dr⟩
          simp only [fnM, en0, mSeq, mIfS, mTb, mTru, mBin, mVar, mC, mAsg, mRet, mRetN, mEx, mNext, mIf, mCB, mCons, mNil, mTup, mLst, mAndT, mOrT, mNotT, mAnd, mOr, mNot, mChain, mCall, callR, oName, oTup, oCons, oNil, oSub, Res.seq, MP.f1, f2, fAbs, fMax, fMin, fGt, fLt, fLe, fGe, fSub, fI0, truD, mNo, mSo, mSl, slD, e_int, List.set_cons_succ, List.set_cons_zero, List.getElem?_cons_succ, List.getElem?_cons_zero, Res.bind_ok, fAdd_int, emod26, ediv26, q2, e_adds t1 t2 (by decide), e_adds t3 ht (by decide)]) (f4.pu.mono (by omega)) (by rw [len_range]; simp; omega)
      obtain ⟨l, rfl, hl⟩ := strs_of d3
      refine ⟨l, μ5, ?_, by rw [List.length_map, len_range] at d2; exact d2, hl, (((a4.trans b3).trans c4).trans f4).trans d4⟩
      rw [wd] at b1 d1
      rw [List.nil_append] at d1
      unfold f__law_menu m__law_menu
      simp [-List.map_map, fnM, en0, mSeq, mIfS, mTb, mTru, mBin, mVar, mC, mAsg, mRet, mRetN, mEx, mNext, mIf, mCB, mCons, mNil, mTup, mLst, mAndT, mOrT, mNotT, mAnd, mOr, mNot, mChain, mCall, callR, oName, oTup, oCons, oNil, oSub, Res.seq, MP.f1, f2, fAbs, fMax, fMin, fGt, fLt, fLe, fGe, fSub, fI0, truD, mNo, mSo, mSl, slD, e_int, a1, w0, w1, b1, e_eqi, m27, c1, f1, hz, mLc, hrg, wipeE, d1]
end Lw
end
set_option Elab.async false
set_option linter.all false
set_option maxRecDepth 100000
set_option maxHeartbeats 4000000
noncomputable section
namespace Lw
open PySem PySem.Spec PyProof.Rows L2 MP
theorem fold_rep (a : Array Nat) : ∀ (n : Nat) (acc : Array Nat), ((List.replicate n a).foldl (· ++ ·) acc).size = acc.size + n * a.size ∧ ∀ c, c ∈ ((List.replicate n a).foldl (· ++ ·) acc).toList → c ∈ acc.toList ∨ c ∈ a.toList
  | 0, acc => ⟨by simp, fun c h => .inl h⟩
  | n + 1, acc => by
    obtain ⟨h1, h2⟩ := fold_rep a n (acc ++ a)
    rw [List.replicate_succ, List.foldl_cons]
    refine ⟨by rw [h1, Array.size_append, Nat.succ_mul]; omega, fun c h => ?_⟩
    rcases h2 c h with q | q
    · rw [Array.toList_append] at q
      exact List.mem_append.mp q
    · exact .inr q
theorem mul_ts {z : Str} {n : Int} {a b : Nat} (hz : TS_ a z) (hn : n ≤ (b : Nat)) (hb : 1 ≤ b) : TS_ (b * a) (Txt.mul z n) := by
  have hab : a ≤ b * a := Nat.le_mul_of_pos_left a hb
  unfold Txt.mul
  split
  · exact ⟨Nat.zero_le _, fun c h => (by cases h)⟩
  · split
    · exact hz.mono hab
    · obtain ⟨h1, h2⟩ := fold_rep z.cps n.toNat #[]
      refine ⟨?_, fun c h => ?_⟩
      · show ((List.replicate n.toNat z.cps).foldl (· ++ ·) #[]).size ≤ _
        rw [h1]
        have e1 : n.toNat ≤ b := by omega
        have e2 : z.cps.size ≤ a := hz.1
        have := Nat.mul_le_mul e1 e2
        simpa using this
      · rcases h2 c h with q | q
        · cases q
        · exact hz.2 c q
theorem e_muls {z : Str} {n : Int} {a : Nat} {μ : Mem} (hz : TS_ a z) (ha : a ≤ 100) (h0 : 0 ≤ n) (hn : n ≤ 1000) : fMulS (.str z) (.int n) μ = .ok (.str (Txt.mul z n)) μ := by
  have hl := hz.1
  have ht := mul_ts (b := 1000) hz (by omega) (by decide)
  have c : MulOk z n ∧ (Txt.mul z n).length ≤ 16777216 := by
    refine ⟨⟨?_, fun h1 _ => ?_, fun h1 _ => ?_⟩, Nat.le_trans ht.1 (by omega)⟩
    · rw [Bool.or_eq_false_iff]
      exact ⟨decide_eq_false (by omega), decide_eq_false (by omega)⟩
    · have : (2 ^ 63 - 1) / n ≥ 1000 := by
        rw [ge_iff_le, Int.le_ediv_iff_mul_le (by omega)]
        omega
      omega
    · unfold Builtin.Str.tooLong sizeLine
      have h3 : z.length * n.toNat ≤ 100 * 1000 := Nat.mul_le_mul (by omega) (by omega)
      exact decide_eq_false (by omega)
  exact if_pos c
theorem sub_mem {x : Str} {i j : Nat} {c : Nat} (h : c ∈ tl (Builtin.Str.strSub x i j)) : c ∈ tl x := by
  have e : tl (Builtin.Str.strSub x i j) = ((tl x).drop i).take (j - i) := StrLaws.strSub_toList x i j
  rw [e] at h
  exact List.mem_of_mem_drop (List.mem_of_mem_take h)
theorem join_mem {s : Str} : ∀ {l : List Str} {c : Nat}, c ∈ tl (Str.join s l) → c ∈ tl s ∨ ∃ z ∈ l, c ∈ tl z
  | [], c, h => by cases h
  | [x], c, h => .inr ⟨x, List.mem_cons_self, h⟩
  | x :: y :: r, c, h => by
    have e : tl (x ++ s ++ Str.join s (y :: r)) = tl x ++ tl s ++ tl (Str.join s (y :: r)) := by
      show (x.cps ++ s.cps ++ (Str.join s (y :: r)).cps).toList = _
      simp
    have h : c ∈ tl (x ++ s ++ Str.join s (y :: r)) := h
    rw [e] at h
    rcases List.mem_append.mp h with q | q
    · rcases List.mem_append.mp q with q | q
      · exact .inr ⟨x, List.mem_cons_self, q⟩
      · exact .inl q
    · rcases join_mem (s := s) q with q | ⟨z, h1, h2⟩
      · exact .inl q
      · exact .inr ⟨z, List.mem_cons_of_mem _ h1, h2⟩
theorem repl_ts {x y z : Str} {n m : Nat} (hx : TS_ n x) (hz : TS_ m z) : TS_ (n + (n + 1) * m) (Txt.replace x y z) := by
  refine ⟨Nat.le_trans (TK.replace_len x y z) (Nat.add_le_add hx.1 (Nat.mul_le_mul (Nat.succ_le_succ hx.1) hz.1)), fun c h => ?_⟩
  unfold Txt.replace at h
  split at h
  · exact hx.2 c h
  · rw [StrLaws.glued_eq_join] at h
    rcases join_mem h with q | ⟨w, h1, h2⟩
    · exact hz.2 c q
    · unfold Builtin.Str.partsBetween at h1
      obtain ⟨p, _, rfl⟩ := List.mem_map.mp h1
      exact hx.2 c (sub_mem h2)
theorem e_addl {xs ys : List D} {μ : Mem} (h : xs.length + ys.length ≤ 16777216) : fAdd (.lst xs) (.lst ys) μ = .ok (.lst (xs ++ ys)) μ := by
  have : xs.length + ys.length ≤ sizeLine := line_of h
  exact if_pos this
end Lw
end
set_option Elab.async false
set_option linter.all false
set_option maxRecDepth 100000
set_option maxHeartbeats 4000000
noncomputable section
namespace Lw
open PySem PySem.Spec PyProof.Rows L2 MP
def oc1 : List Str := ["", " ", "left", "ended", "left ", " ended", "Left", "left ended", "told"]
def oc2 : List Str := ["told ", "told a", "told a ", "told  a", "told A"]
def oc3 : List Str := ["during a", "from a", "told a during", "told a during b", "told a from b"]
def oc4 : List Str := ["told a told b", "told a during b from c"]
def oc5 : List Str := ["told a from b during c", "told a duringb", "told a during B", "told told"]
def oc6 : List Str := ["told from from during", "told left", "a", "a b"]
def oc7 : List Str := ["told abcdefgh", "told abcdefghi", "told a1", "told a, during b", "told a;"]
def oc8 : List Str := ["told a during b ended", "error a", "told a by b"]
def oc : List Str := oc1 ++ oc2 ++ oc3 ++ oc4 ++ oc5 ++ oc6 ++ oc7 ++ oc8
theorem e_len {ds : List D} {μ : Mem} : fLen [.lst ds] μ = .ok (.int (ds.length : Nat)) μ := rfl
theorem oc_ok : ∀ z ∈ oc, TS_ 30 z := by
  intro z hz
  unfold TS_ Sk
  revert z
  decide +kernel
theorem cs_ok {z : Str} (h : (decide (z.length ≤ 30) && (tl z).all fun c => decide (c < 0x110000)) = true) : TS_ 30 z := by
  obtain ⟨h1, h2⟩ := Bool.and_eq_true_iff.mp h
  exact ⟨of_decide_eq_true h1, fun c hc => of_decide_eq_true (List.all_eq_true.mp h2 c hc)⟩
theorem e_odd {p k : Nat} {μ : Mem} {w : Str} (h : Pu p (k + 2) μ) (hw : TS_ 1000 w) : ∃ (z : Str) (μ' : Mem), f__law_odd [.ref p, .str w] μ = .ok (.str z) μ' ∧ TS_ 10000 z ∧ Dr p k μ μ' := by
  obtain ⟨j, μ1, a1, a2, a3, a4⟩ := m_coin (m := 200) (h.mono (show (k + 1) + 1 ≤ k + 2 by omega)) (by decide) (by decide)
  have t1 : TS_ 30 "told a" := cs_ok (by decide +kernel)
  have t2 : TS_ 30 " during b" := cs_ok (by decide +kernel)
  have t3 : TS_ 30 " from b" := cs_ok (by decide +kernel)
  have t4 : TS_ 30 " during" := cs_ok (by decide +kernel)
  have t5 : TS_ 30 " from c during d" := cs_ok (by decide +kernel)
  have t6 : TS_ 30 " from x" := cs_ok (by decide +kernel)
  have t7 : TS_ 30 " told x" := cs_ok (by decide +kernel)
  have t8 : TS_ 30 " x" := cs_ok (by decide +kernel)
  have t9 : TS_ 2 "  " := ⟨by decide +kernel, (cs_ok (by decide +kernel)).2⟩
  have u1 := fun μ => e_muls (μ := μ) t2 (by decide) (show 0 ≤ 1 + j by omega) (by omega)
  have u2 := fun μ => e_muls (μ := μ) t3 (by decide) (show 0 ≤ 1 + j by omega) (by omega)
  have u3 := fun μ => e_muls (μ := μ) t5 (by decide) (show 0 ≤ (1 + j) / 2 + 1 by omega) (by omega)
  have v1 := mul_ts (b := 200) t2 (show 1 + j ≤ ((200 : Nat) : Int) by omega) (by decide)
  have v2 := mul_ts (b := 200) t3 (show 1 + j ≤ ((200 : Nat) : Int) by omega) (by decide)
  have v3 := mul_ts (b := 101) t5 (show (1 + j) / 2 + 1 ≤ ((101 : Nat) : Int) by omega) (by decide)
  have ediv : ∀ i μ, fDiv (.int i) (.int 2) μ = .ok (.int (i / 2)) μ := fun i μ => fDiv_ok (by decide) (by decide)
  have p1 := fun μ => e_adds (μ := μ) t1 v1 (by decide)
  have p2 := fun μ => e_adds (μ := μ) t1 v2 (by decide)
  have p3 := fun μ => e_adds (μ := μ) (t1.app v2) t4 (by decide)
  have p4 := fun μ => e_adds (μ := μ) t1 v3 (by decide)
  have p5 := fun μ => e_adds (μ := μ) hw t6 (by decide)
  have p6 := fun μ => e_adds (μ := μ) hw t4 (by decide)
  have p7 := fun μ => e_adds (μ := μ) hw t7 (by decide)
  have p8 := fun μ => e_adds (μ := μ) hw t8 (by decide)
  have r1 := repl_ts (x := w) (y := " ") hw t9
  have er : ∀ (e : En) μ, e[1]? = some (some (.str w)) → mRepl " " "  " (mVar 1) e μ = .ok (.str (Txt.replace w " " "  ")) μ := fun e μ he => by
    have c : w.length + (w.length + 1) * ("  " : Str).length ≤ 16777216 := by
      have h1 : ("  " : Str).length = 2 := by decide +kernel
      have := hw.1
      rw [h1]; omega
    simp only [mRepl, mVar, he, Res.bind_ok]
    exact if_pos c
  generalize hS1 : Txt.mul " during b" (1 + j) = s1 at *
  generalize hS2 : Txt.mul " from b" (1 + j) = s2 at *
  generalize hS3 : Txt.mul " from c during d" ((1 + j) / 2 + 1) = s3 at *
  generalize hS4 : Txt.replace w " " "  " = s4 at *
  have k1 : ∀ d ∈ (oc.map .str ++ [.str ("told a" ++ s1), .str ("told a" ++ s2 ++ " during")] ++ [.str ("told a" ++ s3)] ++ [.str (w ++ " from x"), .str (w ++ " during"), .str (w ++ " told x")] ++ [.str s4, .str (cutS w (some 5) none), .str (w ++ " x")] : List D), IsS 10000 d := by
    intro d hd
    simp only [List.mem_append, List.mem_map, List.mem_cons, List.not_mem_nil, or_false] at hd
    rcases hd with (((⟨z, hz, rfl⟩ | (rfl | rfl)) | rfl) | (rfl | rfl | rfl)) | (rfl | rfl | rfl)
    · exact ⟨z, rfl, (oc_ok z hz).mono (by decide)⟩
    · exact ⟨_, rfl, (t1.app v1).mono (by decide)⟩
    · exact ⟨_, rfl, ((t1.app v2).app t4).mono (by decide)⟩
    · exact ⟨_, rfl, (t1.app v3).mono (by decide)⟩
    · exact ⟨_, rfl, (hw.app t6).mono (by decide)⟩
    · exact ⟨_, rfl, (hw.app t4).mono (by decide)⟩
    · exact ⟨_, rfl, (hw.app t7).mono (by decide)⟩
    · exact ⟨_, rfl, r1.mono (by decide)⟩
    · exact ⟨_, rfl, (hw.cut _ _).mono (by decide)⟩
    · exact ⟨_, rfl, (hw.app t8).mono (by decide)⟩
  obtain ⟨i, μ2, b1, b2, b3, b4⟩ := m_coin (m := 46) (a4.pu.mono (show k + 1 ≤ k + 1 by omega)) (by decide) (by decide)
  obtain ⟨d, c1, c2⟩ := e_ixl (ds := oc.map .str ++ [.str ("told a" ++ s1), .str ("told a" ++ s2 ++ " during")] ++ [.str ("told a" ++ s3)] ++ [.str (w ++ " from x"), .str (w ++ " during"), .str (w ++ " told x")] ++ [.str s4, .str (cutS w (some 5) none), .str (w ++ " x")]) (j := i) (μ := μ2) b2 (by exact b3)
  obtain ⟨z, rfl, hz⟩ := k1 d c1
  refine ⟨z, μ2, ?_, hz, a4.trans b4⟩
  have hoc : oc.map D.str = [.str "", .str " ", .str "left", .str "ended", .str "left ", .str " ended", .str "Left", .str "left ended", .str "told"] ++ [.str "told ", .str "told a", .str "told a ", .str "told  a", .str "told A"] ++ [.str "during a", .str "from a", .str "told a during", .str "told a during b", .str "told a from b"] ++
    [.str "told a told b", .str "told a during b from c"] ++ [.str "told a from b during c", .str "told a duringb", .str "told a during B", .str "told told"] ++ [.str "told from from during", .str "told left", .str "a", .str "a b"] ++ [.str "told abcdefgh", .str "told abcdefghi", .str "told a1", .str "told a, during b", .str "told a;"] ++ [.str "told a during b ended", .str "error a", .str "told a by b"] := rfl
  rw [hoc] at c2
  simp only [List.cons_append, List.nil_append] at c2
  unfold f__law_odd m__law_odd
  simp [fnM, en0, mSeq, mIfS, mTb, mTru, mBin, mVar, mC, mAsg, mRet, mRetN, mEx, mNext, mIf, mCB, mCons, mNil, mTup, mLst, mAndT, mOrT, mNotT, mAnd, mOr, mNot, mChain, mCall, callR, oName, oTup, oCons, oNil, oSub, Res.seq, MP.f1, f2, fAbs, fMax, fMin, fGt, fLt, fLe, fGe, fSub, fI0, truD, mNo, mSo, mSl, slD, e_int, e_addl, a1, fAdd_int, u1, u2, u3, p1, p2, p3, p4, p5, p6, p7, p8, ediv, er, e_len, b1, c2]
end Lw
end
set_option Elab.async false
set_option linter.all false
set_option maxRecDepth 100000
set_option maxHeartbeats 4000000
noncomputable section
namespace Lw
open PySem PySem.Spec PyProof.Rows L2 MP
theorem frzC_ints {k : Nat} {μ : Mem} {N : Nat} {a b d : Int} : frzC (k + 1) μ N (.lst [.int a, .int b, .int d]) = some (.lst [.int a, .int b, .int d]) := by
  have f : ∀ i : Int, frz (k + 1) μ N (.int i) = some (.int i) := fun i => by rw [frz] <;> (intros; contradiction)
  show Option.map Cell.lst (List.mapM (frz (k + 1) μ N) [.int a, .int b, .int d]) = _
  rw [List.mapM_cons, List.mapM_cons, List.mapM_cons, f, f, f]
  rfl
theorem seal_dr {p k : Nat} {μ μ' cs : Mem} {d : D} (h : Dr p k μ μ') (hd : frz 40 (μ' ++ cs) μ.length d = some d) : sealR μ (.ok d (μ' ++ cs)) = .ok d μ' := by
  refine seal_cut h.len (fun n c' hc => ?_) hd
  obtain ⟨c, ⟨a, b, e, rfl, _⟩, rfl, hp⟩ := h
  by_cases hn : p = n
  · subst hn
    rw [List.getElem?_set_self hp] at hc
    cases hc
    exact .inr frzC_ints
  · rw [List.getElem?_set_ne hn] at hc
    exact .inl hc
theorem Pu.app {p k : Nat} {μ cs : Mem} (h : Pu p k μ) : Pu p k (μ ++ cs) := by
  obtain ⟨c, h1, h2⟩ := h
  have hl := (List.getElem?_eq_some_iff.mp h1).1
  exact ⟨c, by rw [List.getElem?_append_left hl]; exact h1, h2⟩
theorem Dr.app {p k : Nat} {μ cs μ' : Mem} (hp : p < μ.length) (h : Dr p k (μ ++ cs) μ') : ∃ μ1, μ' = μ1 ++ cs ∧ Dr p k μ μ1 := by
  obtain ⟨c, h1, rfl, h2⟩ := h
  exact ⟨μ.set p c, by rw [List.set_append_left _ _ hp], c, h1, rfl, hp⟩
theorem Pu.lt {p k : Nat} {μ : Mem} (h : Pu p k μ) : p < μ.length := let ⟨_, h1, _⟩ := h; (List.getElem?_eq_some_iff.mp h1).1
theorem e_joinv {s : Str} {ys : List Str} {d : D} {μ : Mem} (hv : viewS μ d = some (ys.map .str)) (hl : ys ≠ []) (hz : (Str.join s ys).length + s.length ≤ 16777216) : txtF gJoin (.str s) [d] μ = .ok (.str (Str.join s ys)) μ := by
  have h1 := join_sum (s := s) hl
  unfold txtF gJoin
  have e : (viewS μ d).bind strsOf = some ys := by rw [hv]; exact strsOf_map ys
  simp only [e]
  rw [if_pos ⟨by omega, by rw [Txt.join, StrLaws.glued_eq_join]; omega⟩]
  simp only [Txt.join, StrLaws.glued_eq_join]
theorem e_slen {z : Str} {μ : Mem} : fLen [.str z] μ = .ok (.int (z.length : Nat)) μ := rfl
def WIDE : Str := "ABCDEFGHIJKLMNOPQRSTUVWXYZ0123456789abcdefghijklmnopqrstuvwxyz !#$&'()*+,-./:;<=>?\x40[]^_`{|}~\"\\"
theorem wide_ok : TS_ 100 WIDE ∧ 0 < WIDE.length := by
  refine ⟨⟨by decide +kernel, ?_⟩, by decide +kernel⟩
  have : (tl WIDE).all (fun c => decide (c < 0x110000)) = true := by decide +kernel
  exact fun c hc => of_decide_eq_true (List.all_eq_true.mp this c hc)
theorem e_ixr {q : Nat} {ds : List D} {k : Nat} {d : D} {j : Int} {μ : Mem} (hv : μ[q]? = some (.lst ds)) (h : ds[k]? = some d) (hj : j = (k : Nat)) : fIx (.ref q) (.int j) μ = .ok d μ := by
  have e : ixD (.ref q) (.int j) μ = some d := by
    subst hj
    have hl : k < ds.length := (List.getElem?_eq_some_iff.mp h).1
    have e2 : viewS μ (.ref q) = some ds := by
      show (match μ[q]? with
        | some (.lst ds) => some ds
        | _ => none) = _
      rw [hv]
    show (match viewS μ (.ref q) with
      | some ds => atI ds (k : Int)
      | none => none) = _
    rw [e2]
    show atI ds ((k : Nat) : Int) = some d
    unfold atI ixN
    rw [if_pos (by omega), if_pos (by omega)]
    exact h
  unfold fIx
  rw [e]
theorem e_lenr {q : Nat} {ds : List D} {μ : Mem} (hv : μ[q]? = some (.lst ds)) : fLen [.ref q] μ = .ok (.int (ds.length : Nat)) μ := by
  have e : lenD μ (.ref q) = some ds.length := by
    show Option.map _ (match μ[q]? with
        | some (.lst ds) => some ds
        | _ => none) = _
    rw [hv]; rfl
  show (match lenD μ (.ref q) with
    | some n => Res.ok (D.int (n : Nat)) μ
    | none => .stuck) = _
  rw [e]
theorem e_sub {o i : ME} {d : D} {e : En} {q : Nat} {ds : List D} {j : Int} {k : Nat} {μ : Mem} (ho : o e μ = .ok (.ref q) μ) (hi : i e μ = .ok (.int j) μ) (hv : μ[q]? = some (.lst ds)) (hj : j = (k : Nat)) (hk : k < ds.length) : oSub o i d e μ = .ok e (μ.set q (.lst (ds.set k d))) := by
  subst hj
  have hx : ixN ds.length ((k : Nat) : Int) = some k := by
    unfold ixN
    rw [if_pos (by omega), if_pos (by omega)]
    rfl
  unfold oSub
  rw [ho]
  simp only [Res.bind_ok, hi, hv, hx]
def bS : MS := (mSeq (mAsg (mBMc isTxt (fSplit true) (mVar 1) (mCons (mVar 7) mNil)) (oName 8)) (mSeq (mPar 9 10 (mCall 2 f__law_coin (mCons (mVar 0) (mCons (mCB fLen (mCons (mVar 8) mNil)) mNil))) (mCall 2 f__law_coin (mCons (mVar 0) (mCons (mCB fLen (mCons (mVar 8) mNil)) mNil)))) (mSeq (mAsg (mBin fIx (mVar 8) (mVar 9)) (oName 11)) (mSeq (mAsg (mBin fIx (mVar 8) (mVar 10)) (oSub (mVar 8) (mVar 9))) (mSeq (mAsg (mVar 11) (oSub (mVar 8) (mVar 10))) (mRet (mBMc isTxt (txtF gJoin) (mVar 7) (mCons (mVar 8) mNil))))))))
theorem e_swap {p k : Nat} {μ : Mem} {w b : Str} {o2 o3 o4 o5 o6 : Option D} (h : Pu p (k + 2) μ) (hw : TS_ 300 w) (hb : TS_ 6 b) (hb0 : b.length ≠ 0) :
    ∃ (z : Str) (μ' cs : Mem), bS [some (.ref p), some (.str w), o2, o3, o4, o5, o6, some (.str b), none, none, none, none] μ = .ok (.rt (.str z)) (μ' ++ cs) ∧ TS_ 100000 z ∧ Dr p k μ μ' := by
  have hs := gSplit_ok (w := w) (s := b) hb0 (by have := hw.1; omega)
  have hp : ∀ x ∈ Txt.split w b, TS_ 300 x := fun x hx => ⟨Nat.le_trans (split_len hx) hw.1, split_sk hw.2 hx⟩
  have hl : (Txt.split w b).length ≤ 302 := Nat.le_trans (PyProof.Rows.split_le w b) (by have := hw.1; omega)
  have hne := split_ne w b
  generalize Txt.split w b = ps at hs hp hl hne
  have hpos : 0 < ps.length := List.length_pos_iff.mpr hne
  obtain ⟨i, ν1, a1, a2, a3, a4⟩ := m_coin (m := (ps.length : Int)) (μ := μ ++ [.lst (ps.map .str)]) ((h.app (cs := [.lst (ps.map .str)])).mono (show (k + 1) + 1 ≤ k + 2 by omega)) (by omega) (by omega)
  obtain ⟨μ1, rfl, a5⟩ := a4.app h.lt
  obtain ⟨j, ν2, b1, b2, b3, b4⟩ := m_coin (m := (ps.length : Int)) (μ := μ1 ++ [.lst (ps.map .str)]) (a4.pu.mono (show k + 1 ≤ k + 1 by omega)) (by omega) (by omega)
  obtain ⟨μ2, rfl, b5⟩ := b4.app a5.pu.lt
  have hl1 : μ1.length = μ.length := a5.len
  have hl2 : μ2.length = μ.length := b5.len.trans hl1
  have g1 : ∀ c : Cell, (μ1 ++ [c])[μ.length]? = some c := fun c => by rw [← hl1]; simp
  have g2 : ∀ c : Cell, (μ2 ++ [c])[μ.length]? = some c := fun c => by rw [← hl2]; simp
  have g0 : ∀ c : Cell, (μ ++ [c])[μ.length]? = some c := fun c => by simp
  have s2 : ∀ c c' : Cell, (μ2 ++ [c]).set μ.length c' = μ2 ++ [c'] := fun c c' => by rw [← hl2]; simp
  have hi : i.toNat < ps.length := by omega
  have hj : j.toNat < ps.length := by omega
  have x1 := e_ixr (μ := μ2 ++ [.lst (ps.map .str)]) (g2 _) (k := i.toNat) (d := .str ps[i.toNat]) (j := i) (by rw [List.getElem?_map, List.getElem?_eq_getElem hi]; rfl) (by omega)
  have x2 := e_ixr (μ := μ2 ++ [.lst (ps.map .str)]) (g2 _) (k := j.toNat) (d := .str ps[j.toNat]) (j := j) (by rw [List.getElem?_map, List.getElem?_eq_getElem hj]; rfl) (by omega)
  have ht : ∀ μ, isTxt μ (.str w) := fun _ => ⟨_, rfl⟩
  have ht2 : ∀ μ, isTxt μ (.str b) := fun _ => ⟨_, rfl⟩
  generalize hps2 : (ps.set i.toNat ps[j.toNat]).set j.toNat ps[i.toNat] = ps2
  have hm : ∀ x ∈ ps2, x ∈ ps := fun x hx => by
    rw [← hps2] at hx
    rcases List.mem_or_eq_of_mem_set hx with q | q
    · rcases List.mem_or_eq_of_mem_set q with q | q
      · exact q
      · rw [q]; exact List.getElem_mem hj
    · rw [q]; exact List.getElem_mem hi
  have hpl : ps2.length = ps.length := by rw [← hps2, List.length_set, List.length_set]
  have hne2 : ps2 ≠ [] := by intro z; rw [z] at hpl; simp at hpl; omega
  have hjn := TS_.join hb (fun z hz => hp z (hm z hz)) hne2
  have hjl : (Str.join b ps2).length ≤ 302 * (300 + 6) := Nat.le_trans hjn.1 (Nat.mul_le_mul (by omega) (Nat.le_refl _))
  have hv : viewS (μ2 ++ [.lst (ps2.map D.str)]) (.ref μ.length) = some (ps2.map .str) := by
    show (match (μ2 ++ [Cell.lst (ps2.map D.str)])[μ.length]? with
        | some (.lst ds) => some ds
        | _ => none) = _
    rw [g2]
  have ejoin := e_joinv hv hne2 (by have := hb.1; omega : (Str.join b ps2).length + b.length ≤ 16777216)
  have q1 : (((ps.map D.str).set i.toNat (.str ps[j.toNat])).set j.toNat (.str ps[i.toNat])) = ps2.map .str := by
    rw [← hps2, List.map_set, List.map_set]
  refine ⟨Str.join b ps2, μ2, [.lst (ps2.map .str)], ?_, ⟨by omega, hjn.2⟩, a5.trans b5⟩
  unfold bS
  have vv : ∀ {E : En} {n : Nat} {d : D} {μ : Mem}, E[n]? = some (some d) → mVar n E μ = .ok d μ := fun {E n d μ} h => by
    simp only [mVar, h]
  have y1 : ∀ (E : En) (d : D), E[8]? = some (some (.ref μ.length)) → E[9]? = some (some (.int i)) → oSub (mVar 8) (mVar 9) d E (μ2 ++ [.lst (ps.map D.str)]) = .ok E (μ2 ++ [.lst ((ps.map D.str).set i.toNat d)]) := fun E d h1 h2 => by
    rw [e_sub (vv h1) (vv h2) (g2 _) (k := i.toNat) (by omega) (by rw [List.length_map]; exact hi), s2]
  have y2 : ∀ (E : En) (d : D), E[8]? = some (some (.ref μ.length)) → E[10]? = some (some (.int j)) → oSub (mVar 8) (mVar 10) d E (μ2 ++ [.lst ((ps.map D.str).set i.toNat (.str ps[j.toNat]))]) = .ok E (μ2 ++ [.lst (((ps.map D.str).set i.toNat (.str ps[j.toNat])).set j.toNat d)]) := fun E d h1 h2 => by
    rw [e_sub (vv h1) (vv h2) (g2 _) (k := j.toNat) (by omega) (by rw [List.length_set, List.length_map]; exact hj), s2]
  have l0 := e_lenr (μ := μ ++ [.lst (ps.map .str)]) (g0 _)
  have l1 := e_lenr (μ := μ1 ++ [.lst (ps.map .str)]) (g1 _)
  rw [List.length_map] at l0 l1
  simp [-List.map_set, -List.set_append, fnM, en0, mSeq, mIfS, mTb, mTru, mBin, mVar, mC, mAsg, mRet, mRetN, mEx, mNext, mIf, mCB, mCons, mNil, mTup, mLst, mAndT, mOrT, mNotT, mAnd, mOr, mNot, mChain, mCall, callR, oName, oTup, oCons, oNil, Res.seq, MP.f1, f2, fAbs, fMax, fMin, fGt, fLt, fLe, fGe, fSub, fI0, truD, mNo, mSo, mSl, slD, e_int, mBMc, ht, ht2, fSplit, hs, mPar, l0, l1, a1, b1, x1, x2, y1, y2, q1, ejoin]
theorem e_marred {p k : Nat} {μ : Mem} {w : Str} (h : Pu p (k + 10) μ) (hw : TS_ 300 w) : ∃ (z : Str) (μ' : Mem), f__law_marred [.ref p, .str w] μ = .ok (.str z) μ' ∧ TS_ 100000 z ∧ Dr p k μ μ' := by
  suffices hs : ∃ (z : Str) (μ' cs : Mem), fnM 12 m__law_marred [.ref p, .str w] μ = .ok (.str z) (μ' ++ cs) ∧ TS_ 100000 z ∧ Dr p k μ μ' by
    obtain ⟨z, μ', cs, h1, h2, h3⟩ := hs
    refine ⟨z, μ', ?_, h2, h3⟩
    unfold f__law_marred sealF
    rw [h1]
    exact seal_dr h3 frz_str
  have hwl := hw.1
  obtain ⟨spot, μ1, a1, a2, a3, a4⟩ := m_coin (m := (w.length : Int) + 1) (h.mono (show (k + 9) + 1 ≤ k + 10 by omega)) (by omega) (by omega)
  obtain ⟨way, μ2, b1, b2, b3, b4⟩ := m_coin (m := 8) (a4.pu.mono (show (k + 8) + 1 ≤ k + 9 by omega)) (by decide) (by decide)
  obtain ⟨i, μ3, c1, c2, c3, c4⟩ := m_coin (m := 2) (b4.pu.mono (show (k + 7) + 1 ≤ k + 8 by omega)) (by decide) (by decide)
  obtain ⟨sg, d1, d2⟩ : ∃ sg : Str, (TS_ 100 sg ∧ 0 < sg.length) ∧ fIx (.lst [.str "told fromurigabx", .str WIDE]) (.int i) μ3 = .ok (.str sg) μ3 := by
    have hi : i = 0 ∨ i = 1 := by omega
    rcases hi with rfl | rfl
    · exact ⟨"told fromurigabx", ⟨(cs_ok (by decide +kernel)).mono (by decide), by decide +kernel⟩, rfl⟩
    · exact ⟨WIDE, wide_ok, rfl⟩
  obtain ⟨i2, μ4, e1, e2, e3, e4⟩ := m_coin (m := (sg.length : Int)) (c4.pu.mono (show (k + 6) + 1 ≤ k + 7 by omega)) (by omega) (by have := d1.1.1; omega)
  obtain ⟨c, f1, f2⟩ := e_ixs (z := sg) (j := i2) (μ := μ4) e2 e3
  have tsn := one_sk (d1.1.2 c f1)
  generalize (⟨#[c]⟩ : Str) = sn at f2 tsn
  have hdr : Dr p (k + 6) μ μ4 := ((a4.trans b4).trans c4).trans e4
  have g1 := hw.cut none (some spot)
  have g2 := hw.cut (some spot) none
  have g3 := hw.cut (some (spot + 1)) none
  have A1 := fun μ => e_adds (μ := μ) g1 tsn (by decide)
  have A2 := fun μ => e_adds (μ := μ) (g1.app tsn) g2 (by decide)
  have A3 := fun μ => e_adds (μ := μ) g1 g3 (by decide)
  have A4 := fun μ => e_adds (μ := μ) (g1.app tsn) g3 (by decide)
  have hW : (WIDE : Str) = "ABCDEFGHIJKLMNOPQRSTUVWXYZ0123456789abcdefghijklmnopqrstuvwxyz !#$&'()*+,-./:;<=>?\x40[]^_`{|}~\"\\" := rfl
  rw [hW] at d2
  have fi : ∀ {j : Int} {μ : Mem}, j ≠ 4 → j ≠ 5 → fIn false (.int j) (.tup [.int 4, .int 5]) μ = .ok (.bl false) μ := fun {j μ} h4 h5 => by
    have : inD (.int j) (.tup [.int 4, .int 5]) μ = some false := by
      show some (inV (.int j) [.int 4, .int 5]) = _
      have h4' : ¬ (4 = j) := fun z => h4 z.symm
      have h5' : ¬ (5 = j) := fun z => h5 z.symm
      simp [inV, eqV, h4', h5']
    unfold fIn
    rw [this]
    rfl
  unfold m__law_marred
  have hways : way = 0 ∨ way = 1 ∨ way = 2 ∨ way = 3 ∨ way = 4 ∨ way = 5 ∨ way = 6 ∨ way = 7 := by omega
  rcases hways with rfl | rfl | rfl | rfl | rfl | rfl | rfl | rfl
  · refine ⟨_, μ4, [], ?_, ((g1.app tsn).app g2).mono (by decide), hdr.mono (by omega)⟩
    simp [fnM, en0, mSeq, mIfS, mTb, mTru, mBin, mVar, mC, mAsg, mRet, mRetN, mEx, mNext, mIf, mCB, mCons, mNil, mTup, mLst, mAndT, mOrT, mNotT, mAnd, mOr, mNot, mChain, mCall, callR, oName, oTup, oCons, oNil, oSub, Res.seq, MP.f1, f2, fAbs, fMax, fMin, fGt, fLt, fLe, fGe, fSub, fI0, truD, mNo, mSo, mSl, slD, e_int, mPar, e_slen, fAdd_int, a1, b1, c1, d2, e1, f2, e_eqi, A1, A2]
  · refine ⟨_, μ4, [], ?_, (g1.app g3).mono (by decide), hdr.mono (by omega)⟩
    simp [fnM, en0, mSeq, mIfS, mTb, mTru, mBin, mVar, mC, mAsg, mRet, mRetN, mEx, mNext, mIf, mCB, mCons, mNil, mTup, mLst, mAndT, mOrT, mNotT, mAnd, mOr, mNot, mChain, mCall, callR, oName, oTup, oCons, oNil, oSub, Res.seq, MP.f1, f2, fAbs, fMax, fMin, fGt, fLt, fLe, fGe, fSub, fI0, truD, mNo, mSo, mSl, slD, e_int, mPar, e_slen, fAdd_int, a1, b1, c1, d2, e1, f2, e_eqi, A3]
  · refine ⟨_, μ4, [], ?_, ((g1.app tsn).app g3).mono (by decide), hdr.mono (by omega)⟩
    simp [fnM, en0, mSeq, mIfS, mTb, mTru, mBin, mVar, mC, mAsg, mRet, mRetN, mEx, mNext, mIf, mCB, mCons, mNil, mTup, mLst, mAndT, mOrT, mNotT, mAnd, mOr, mNot, mChain, mCall, callR, oName, oTup, oCons, oNil, oSub, Res.seq, MP.f1, f2, fAbs, fMax, fMin, fGt, fLt, fLe, fGe, fSub, fI0, truD, mNo, mSo, mSl, slD, e_int, mPar, e_slen, fAdd_int, a1, b1, c1, d2, e1, f2, e_eqi, A1, A4]
  · obtain ⟨z, μ5, o1, o2, o3⟩ := e_odd (k := k) (hdr.pu.mono (by omega)) (hw.mono (by decide))
    refine ⟨z, μ5, [], ?_, o2.mono (by decide), hdr.trans o3⟩
    simp [fnM, en0, mSeq, mIfS, mTb, mTru, mBin, mVar, mC, mAsg, mRet, mRetN, mEx, mNext, mIf, mCB, mCons, mNil, mTup, mLst, mAndT, mOrT, mNotT, mAnd, mOr, mNot, mChain, mCall, callR, oName, oTup, oCons, oNil, oSub, Res.seq, MP.f1, f2, fAbs, fMax, fMin, fGt, fLt, fLe, fGe, fSub, fI0, truD, mNo, mSo, mSl, slD, e_int, mPar, e_slen, fAdd_int, a1, b1, c1, d2, e1, f2, e_eqi, o1]
  · obtain ⟨z, μ5, cs, o1, o2, o3⟩ := e_swap (k := k) (b := " ") (w := w) (o2 := some (.int spot)) (o3 := some (.int 4)) (o4 := some (.str WIDE)) (o5 := some (.str sg)) (o6 := some (.str sn)) (hdr.pu.mono (by omega)) hw ⟨by decide +kernel, (cs_ok (by decide +kernel)).2⟩ (by decide +kernel)
    refine ⟨z, μ5, cs, ?_, o2, hdr.trans o3⟩
    show fnM 12 (mSeq _ (mSeq _ (mSeq _ (mSeq _ (mSeq _ (mSeq _ (mSeq _ (mSeq _ (mSeq (mIfS _ (mSeq _ bS) _) _))))))))) _ _ = _
    rw [hW] at o1
    generalize hF : bS = F at o1 ⊢
    have x4 : ∀ μ, fIx (.lst [.str " ", .str " from "]) (.int 0) μ = .ok (.str " ") μ := fun μ => rfl
    have f4 : ∀ μ, fIn false (.int 4) (.tup [.int 4, .int 5]) μ = .ok (.bl true) μ := fun μ => rfl
    simp [fnM, en0, mSeq, mIfS, mTb, mTru, mBin, mVar, mC, mAsg, mRet, mRetN, mEx, mNext, mIf, mCB, mCons, mNil, mTup, mLst, mAndT, mOrT, mNotT, mAnd, mOr, mNot, mChain, mCall, callR, oName, oTup, oCons, oNil, oSub, Res.seq, MP.f1, f2, fAbs, fMax, fMin, fGt, fLt, fLe, fGe, fSub, fI0, truD, mNo, mSo, mSl, slD, e_int, mPar, e_slen, fAdd_int, a1, b1, c1, d2, e1, f2, e_eqi, f4, x4, o1]
  · obtain ⟨z, μ5, cs, o1, o2, o3⟩ := e_swap (k := k) (b := " from ") (w := w) (o2 := some (.int spot)) (o3 := some (.int 5)) (o4 := some (.str WIDE)) (o5 := some (.str sg)) (o6 := some (.str sn)) (hdr.pu.mono (by omega)) hw ⟨by decide +kernel, (cs_ok (by decide +kernel)).2⟩ (by decide +kernel)
    refine ⟨z, μ5, cs, ?_, o2, hdr.trans o3⟩
    show fnM 12 (mSeq _ (mSeq _ (mSeq _ (mSeq _ (mSeq _ (mSeq _ (mSeq _ (mSeq _ (mSeq (mIfS _ (mSeq _ bS) _) _))))))))) _ _ = _
    rw [hW] at o1
    generalize hF : bS = F at o1 ⊢
    have x4 : ∀ μ, fIx (.lst [.str " ", .str " from "]) (.int 1) μ = .ok (.str " from ") μ := fun μ => rfl
    have f4 : ∀ μ, fIn false (.int 5) (.tup [.int 4, .int 5]) μ = .ok (.bl true) μ := fun μ => rfl
    simp [fnM, en0, mSeq, mIfS, mTb, mTru, mBin, mVar, mC, mAsg, mRet, mRetN, mEx, mNext, mIf, mCB, mCons, mNil, mTup, mLst, mAndT, mOrT, mNotT, mAnd, mOr, mNot, mChain, mCall, callR, oName, oTup, oCons, oNil, oSub, Res.seq, MP.f1, f2, fAbs, fMax, fMin, fGt, fLt, fLe, fGe, fSub, fI0, truD, mNo, mSo, mSl, slD, e_int, mPar, e_slen, fAdd_int, a1, b1, c1, d2, e1, f2, e_eqi, f4, x4, o1]
  · refine ⟨w, μ4, [], ?_, hw.mono (by decide), hdr.mono (by omega)⟩
    simp [fnM, en0, mSeq, mIfS, mTb, mTru, mBin, mVar, mC, mAsg, mRet, mRetN, mEx, mNext, mIf, mCB, mCons, mNil, mTup, mLst, mAndT, mOrT, mNotT, mAnd, mOr, mNot, mChain, mCall, callR, oName, oTup, oCons, oNil, oSub, Res.seq, MP.f1, f2, fAbs, fMax, fMin, fGt, fLt, fLe, fGe, fSub, fI0, truD, mNo, mSo, mSl, slD, e_int, mPar, e_slen, fAdd_int, a1, b1, c1, d2, e1, f2, e_eqi, fi]
  · refine ⟨w, μ4, [], ?_, hw.mono (by decide), hdr.mono (by omega)⟩
    simp [fnM, en0, mSeq, mIfS, mTb, mTru, mBin, mVar, mC, mAsg, mRet, mRetN, mEx, mNext, mIf, mCB, mCons, mNil, mTup, mLst, mAndT, mOrT, mNotT, mAnd, mOr, mNot, mChain, mCall, callR, oName, oTup, oCons, oNil, oSub, Res.seq, MP.f1, f2, fAbs, fMax, fMin, fGt, fLt, fLe, fGe, fSub, fI0, truD, mNo, mSo, mSl, slD, e_int, mPar, e_slen, fAdd_int, a1, b1, c1, d2, e1, f2, e_eqi, fi]
end Lw
end
set_option Elab.async false
set_option linter.all false
set_option maxRecDepth 100000
set_option maxHeartbeats 4000000
noncomputable section
namespace Lw
open PySem PySem.Spec PyProof.Rows L2 MP
theorem loopI_cons {g : MG} {b : MS} {d : D} {ds : List D} {e e1 : En} {μ μ1 : Mem} (h : g d e μ = .ok e1 μ1) : loopI none g b (d :: ds) e μ = (match b e1 μ1 with
      | .ok (.nx e2) μ2 => loopI none g b ds e2 μ2
      | .ok (.ct e2) μ2 => loopI none g b ds e2 μ2
      | .ok (.bk e2) μ2 => .ok (.nx e2) μ2
      | r => r) := by
  rw [loopI, if_pos (show OkG none μ from trivial), h]
  rfl
theorem loopI_nil {g : MG} {b : MS} {e : En} {μ : Mem} : loopI none g b [] e μ = .ok (.nx e) μ := by
  rw [loopI, if_pos (show OkG none μ from trivial)]
def bR1 : MS := (mSeq (mAsg (mBin fIx (mLst (mCons (mC (.str " during ")) (mCons (mC (.str " from ")) mNil))) (mCall 2 f__law_coin (mCons (mVar 0) (mCons (mC (.int 2)) mNil)))) (oName 4)) (mAsg (mBin fAdd (mBin fAdd (mVar 2) (mVar 4)) (mBin fIx (mVar 1) (mCall 2 f__law_coin (mCons (mVar 0) (mCons (mCB fLen (mCons (mVar 1) mNil)) mNil))))) (oName 2)))
theorem e_r1 {p : Nat} {l : List Str} (hl : ∀ z ∈ l, TS_ 30 z) (h0 : 0 < l.length) (h6 : l.length ≤ 6) : ∀ (ds : List D) (k n : Nat) (w : Str) (o3 o4 : Option D) (μ : Mem), Pu p (k + 2 * ds.length) μ → TS_ n w → n + 38 * ds.length ≤ 300 →
    ∃ w' o3' o4' μ', loopI none (oName 3) bR1 ds [some (.ref p), some (.lst (l.map .str)), some (.str w), o3, o4, none, none] μ = .ok (.nx [some (.ref p), some (.lst (l.map .str)), some (.str w'), o3', o4', none, none]) μ' ∧ TS_ 300 w' ∧ Dr p k μ μ'
  | [], k, n, w, o3, o4, μ, h, hw, hn => ⟨w, o3, o4, μ, loopI_nil, hw.mono (by simpa using hn), (h.mono (by simp)).dr⟩
  | d :: ds, k, n, w, o3, o4, μ, h, hw, hn => by
    rw [List.length_cons] at h hn
    obtain ⟨i, μ1, a1, a2, a3, a4⟩ := m_coin (m := 2) (h.mono (show (k + 2 * ds.length + 1) + 1 ≤ k + 2 * (ds.length + 1) by omega)) (by decide) (by decide)
    obtain ⟨j, μ2, b1, b2, b3, b4⟩ := m_coin (m := (l.length : Int)) (a4.pu.mono (show (k + 2 * ds.length) + 1 ≤ k + 2 * ds.length + 1 by omega)) (by omega) (by omega)
    obtain ⟨x, c1, c2⟩ : ∃ x : Str, TS_ 8 x ∧ fIx (.lst [.str " during ", .str " from "]) (.int i) μ1 = .ok (.str x) μ1 := by
      have hi : i = 0 ∨ i = 1 := by omega
      rcases hi with rfl | rfl
      · exact ⟨" during ", ⟨by decide +kernel, (cs_ok (by decide +kernel)).2⟩, rfl⟩
      · exact ⟨" from ", ⟨by decide +kernel, (cs_ok (by decide +kernel)).2⟩, rfl⟩
    have hj : j.toNat < l.length := by omega
    have t := hl _ (List.getElem_mem hj)
    have x1 := e_ix (μ := μ2) (ds := l.map .str) (k := j.toNat) (d := .str l[j.toNat]) (j := j) (by rw [List.getElem?_map, List.getElem?_eq_getElem hj]; rfl) (by omega)
    have A1 := fun μ => e_adds (μ := μ) hw c1 (by omega)
    have A2 := fun μ => e_adds (μ := μ) (hw.app c1) t (by omega)
    obtain ⟨w', o3', o4', μ3, d1, d2, d3⟩ := e_r1 hl h0 h6 ds k (n + 8 + 30) (w ++ x ++ l[j.toNat]) (some d) (some (.str x)) μ2 b4.pu ((hw.app c1).app t) (by omega)
    refine ⟨w', o3', o4', μ3, ?_, d2, (a4.trans b4).trans d3⟩
    rw [loopI_cons (e1 := [some (.ref p), some (.lst (l.map .str)), some (.str w), some d, o4, none, none]) (μ1 := μ) rfl]
    have hb : bR1 [some (.ref p), some (.lst (l.map .str)), some (.str w), some d, o4, none, none] μ = .ok (.nx [some (.ref p), some (.lst (l.map .str)), some (.str (w ++ x ++ l[j.toNat])), some d, some (.str x), none, none]) μ2 := by
      unfold bR1
      simp [fnM, en0, mSeq, mIfS, mTb, mTru, mBin, mVar, mC, mAsg, mRet, mRetN, mEx, mNext, mIf, mCB, mCons, mNil, mTup, mLst, mAndT, mOrT, mNotT, mAnd, mOr, mNot, mChain, mCall, callR, oName, oTup, oCons, oNil, oSub, Res.seq, MP.f1, f2, fAbs, fMax, fMin, fGt, fLt, fLe, fGe, fSub, fI0, truD, mNo, mSo, mSl, slD, e_int, a1, c2, A1, A2, e_len, b1, x1]
    rw [hb]
    exact d1
def bR2 : MS := (mSeq (mAsg (mCall 2 f__law_marred (mCons (mVar 0) (mCons (mVar 2) mNil))) (oName 5)) (mSeq (mAsg (mCall 1 f__law_told_of (mCons (mVar 5) mNil)) (oName 6)) (mIfS (mAndT (mTb (mBin fLe (mCB fLen (mCons (mVar 5) mNil)) (mC (.int 3000)))) (mTb (mBin fNe (mCall 2 f__law_caught (mCons (mVar 5) (mCons (mCall 2 f__law_coin (mCons (mVar 0) (mCons (mC (.int 2)) mNil))) mNil))) (mVar 6)))) (mRet (mC (.bl false))) mNext)))
theorem e_r2 {p : Nat} {l : Option D} {w : Str} (hw : TS_ 300 w) : ∀ (ds : List D) (k : Nat) (o3 o4 o5 o6 : Option D) (μ : Mem), Pu p (k + 11 * ds.length) μ →
    ∃ o3' o5' o6' μ', loopI none (oName 3) bR2 ds [some (.ref p), l, some (.str w), o3, o4, o5, o6] μ = .ok (.nx [some (.ref p), l, some (.str w), o3', o4, o5', o6']) μ' ∧ Dr p k μ μ'
  | [], k, o3, o4, o5, o6, μ, h => ⟨o3, o5, o6, μ, loopI_nil, (h.mono (by simp)).dr⟩
  | d :: ds, k, o3, o4, o5, o6, μ, h => by
    rw [List.length_cons] at h
    obtain ⟨z, μ1, a1, a2, a3⟩ := e_marred (k := k + 11 * ds.length + 1) (h.mono (show k + 11 * ds.length + 1 + 10 ≤ k + 11 * (ds.length + 1) by omega)) hw
    have t1 := fun μ => e_told_of (w := z) (μ := μ) (Nat.le_trans a2.1 (by decide)) a2.2
    have t2 := fun i μ => e_caught (w := z) (way := i) (μ := μ) (Nat.le_trans a2.1 (by decide)) a2.2
    have t3 := fun μ => told_same (w := z) (μ := μ) a2.2
    obtain ⟨i, μ2, b1, b2, b3, b4⟩ := m_coin (m := 2) (a3.pu.mono (show (k + 11 * ds.length) + 1 ≤ k + 11 * ds.length + 1 by omega)) (by decide) (by decide)
    by_cases hz : (z.length : Int) ≤ 3000
    · obtain ⟨o3', o5', o6', μ3, d1, d2⟩ := e_r2 (l := l) hw ds k (some d) o4 (some (.str z)) (some (.lst (told z).toList)) μ2 b4.pu
      refine ⟨o3', o5', o6', μ3, ?_, (a3.trans b4).trans d2⟩
      rw [loopI_cons (e1 := [some (.ref p), l, some (.str w), some d, o4, o5, o6]) (μ1 := μ) rfl]
      have hb : bR2 [some (.ref p), l, some (.str w), some d, o4, o5, o6] μ = .ok (.nx [some (.ref p), l, some (.str w), some d, o4, some (.str z), some (.lst (told z).toList)]) μ2 := by
        unfold bR2
        simp [fnM, en0, mSeq, mIfS, mTb, mTru, mBin, mVar, mC, mAsg, mRet, mRetN, mEx, mNext, mIf, mCB, mCons, mNil, mTup, mLst, mAndT, mOrT, mNotT, mAnd, mOr, mNot, mChain, mCall, callR, oName, oTup, oCons, oNil, oSub, Res.seq, MP.f1, f2, fAbs, fMax, fMin, fGt, fLt, fLe, fGe, fSub, fI0, truD, mNo, mSo, mSl, slD, e_int, a1, t1, e_slen, hz, b1, t2, t3]
      rw [hb]
      exact d1
    · obtain ⟨o3', o5', o6', μ3, d1, d2⟩ := e_r2 (l := l) hw ds k (some d) o4 (some (.str z)) (some (.lst (told z).toList)) μ1 (a3.pu.mono (by omega))
      refine ⟨o3', o5', o6', μ3, ?_, a3.trans d2⟩
      rw [loopI_cons (e1 := [some (.ref p), l, some (.str w), some d, o4, o5, o6]) (μ1 := μ) rfl]
      have hb : bR2 [some (.ref p), l, some (.str w), some d, o4, o5, o6] μ = .ok (.nx [some (.ref p), l, some (.str w), some d, o4, some (.str z), some (.lst (told z).toList)]) μ1 := by
        unfold bR2
        simp [fnM, en0, mSeq, mIfS, mTb, mTru, mBin, mVar, mC, mAsg, mRet, mRetN, mEx, mNext, mIf, mCB, mCons, mNil, mTup, mLst, mAndT, mOrT, mNotT, mAnd, mOr, mNot, mChain, mCall, callR, oName, oTup, oCons, oNil, oSub, Res.seq, MP.f1, f2, fAbs, fMax, fMin, fGt, fLt, fLe, fGe, fSub, fI0, truD, mNo, mSo, mSl, slD, e_int, a1, t1, e_slen, hz]
      rw [hb]
      exact d1
end Lw
end
set_option Elab.async false
set_option linter.all false
set_option maxRecDepth 100000
set_option maxHeartbeats 4000000
noncomputable section
namespace Lw
open PySem PySem.Spec PyProof.Rows L2 MP
theorem e_right {p k : Nat} {μ : Mem} (h : Pu p (k + 120) μ) : ∃ μ', f__law_right [.ref p] μ = .ok (.bl true) μ' ∧ Dr p k μ μ' := by
  obtain ⟨m, μ1, a1, a2, a3, a4⟩ := m_coin (m := 6) (h.mono (show (k + 119) + 1 ≤ k + 120 by omega)) (by decide) (by decide)
  obtain ⟨l, μ2, b1, b2, b3, b4⟩ := e_menu (m := 1 + m) (a4.pu.mono (show (k + 107) + 12 ≤ k + 119 by omega)) (by omega) (by omega)
  obtain ⟨i, μ3, c1, c2, c3, c4⟩ := m_coin (m := 2) (b4.pu.mono (show (k + 106) + 1 ≤ k + 107 by omega)) (by decide) (by decide)
  obtain ⟨j, μ4, d1, d2, d3, d4⟩ := m_coin (m := 4) (c4.pu.mono (show (k + 105) + 1 ≤ k + 106 by omega)) (by decide) (by decide)
  have hl0 : 0 < l.length := by omega
  have hl6 : l.length ≤ 6 := by omega
  obtain ⟨x, y1, y2⟩ : ∃ x : Str, TS_ 8 x ∧ fIx (.lst [.str "left", .str "ended"]) (.int i) μ3 = .ok (.str x) μ3 := by
    have hi : i = 0 ∨ i = 1 := by omega
    rcases hi with rfl | rfl
    · exact ⟨"left", ⟨by decide +kernel, (cs_ok (by decide +kernel)).2⟩, rfl⟩
    · exact ⟨"ended", ⟨by decide +kernel, (cs_ok (by decide +kernel)).2⟩, rfl⟩
  have h88 : (rangeD 0 8).length = 8 := rfl
  have r8 : ∀ (e : En) μ, mRg1 (mC (.int 8)) e μ = .ok (rangeD 0 8, none) μ := fun e μ => e_rg1 (m := 8) (by decide) (by decide) rfl
  unfold f__law_right
  have hm : m__law_right = (mSeq (mAsg (mCall 2 f__law_menu (mCons (mVar 0) (mCons (mBin fAdd (mC (.int 1)) (mCall 2 f__law_coin (mCons (mVar 0) (mCons (mC (.int 6)) mNil)))) mNil))) (oName 1)) (mSeq (mAsg (mBin fIx (mLst (mCons (mC (.str "left")) (mCons (mC (.str "ended")) mNil))) (mCall 2 f__law_coin (mCons (mVar 0) (mCons (mC (.int 2)) mNil)))) (oName 2))
    (mSeq (mIfS (mTb (mBin fGt (mCall 2 f__law_coin (mCons (mVar 0) (mCons (mC (.int 4)) mNil))) (mC (.int 0)))) (mSeq (mAsg (mBin fAdd (mC (.str "told ")) (mBin fIx (mVar 1) (mC (.int 0)))) (oName 2)) (mFor (mRg1 (mCall 2 f__law_coin (mCons (mVar 0) (mCons (mC (.int 6)) mNil)))) (oName 3) bR1)) mNext)
    (mSeq (mFor (mRg1 (mC (.int 8))) (oName 3) bR2) (mRet (mC (.bl true))))))) := rfl
  rw [hm]
  have bR1e : ∃ F, F = bR1 := ⟨_, rfl⟩
  obtain ⟨F1, hF1⟩ := bR1e
  obtain ⟨F2, hF2⟩ : ∃ F, F = bR2 := ⟨_, rfl⟩
  by_cases hj : 0 < j
  · have t0 := b3 _ (List.getElem_mem hl0)
    have x0 : ∀ μ, fIx (.lst (l.map .str)) (.int 0) μ = .ok (.str l[0]) μ := fun μ => e_ix (k := 0) (by rw [List.getElem?_map, List.getElem?_eq_getElem hl0]; rfl) rfl
    have tt : TS_ 8 "told " := ⟨by decide +kernel, (cs_ok (by decide +kernel)).2⟩
    have A1 := fun μ => e_adds (μ := μ) tt t0 (by decide)
    obtain ⟨n, μ5, f1, f2, f3, f4⟩ := m_coin (m := 6) (d4.pu.mono (show (k + 104) + 1 ≤ k + 105 by omega)) (by decide) (by decide)
    have hln : (rangeD 0 n.toNat).length = n.toNat := len_range
    obtain ⟨w', o3', o4', μ6, g1, g2, g3⟩ := e_r1 (p := p) b3 hl0 hl6 (rangeD 0 n.toNat) (k + 94) (8 + 30) ("told " ++ l[0]) none none μ5 (f4.pu.mono (by rw [hln]; omega)) (tt.app t0) (by rw [hln]; omega)
    obtain ⟨q3, q5, q6, μ7, s1, s2⟩ := e_r2 (p := p) (l := some (.lst (l.map .str))) g2 (rangeD 0 8) k o3' o4' none none μ6 (g3.pu.mono (by rw [h88]; omega))
    refine ⟨μ7, ?_, (((((a4.trans b4).trans c4).trans d4).trans f4).trans g3).trans s2⟩
    have r6 : ∀ (e : En), e[0]? = some (some (.ref p)) → mRg1 (mCall 2 f__law_coin (mCons (mVar 0) (mCons (mC (.int 6)) mNil))) e μ4 = .ok (rangeD 0 n.toNat, none) μ5 := fun e he => e_rg1 (m := n) f2 (by omega) (by simp [fnM, en0, mSeq, mIfS, mTb, mTru, mBin, mVar, mC, mAsg, mRet, mRetN, mEx, mNext, mIf, mCB, mCons, mNil, mTup, mLst, mAndT, mOrT, mNotT, mAnd, mOr, mNot, mChain, mCall, callR, oName, oTup, oCons, oNil, oSub, Res.seq, MP.f1, f2, fAbs, fMax, fMin, fGt, fLt, fLe, fGe, fSub, fI0, truD, mNo, mSo, mSl, slD, e_int, he, f1])
    rw [← hF1, ← hF2]
    rw [← hF1] at g1
    rw [← hF2] at s1
    simp [fnM, en0, mSeq, mIfS, mTb, mTru, mBin, mVar, mC, mAsg, mRet, mRetN, mEx, mNext, mIf, mCB, mCons, mNil, mTup, mLst, mAndT, mOrT, mNotT, mAnd, mOr, mNot, mChain, mCall, callR, oName, oTup, oCons, oNil, oSub, Res.seq, MP.f1, f2, fAbs, fMax, fMin, fGt, fLt, fLe, fGe, fSub, fI0, truD, mNo, mSo, mSl, slD, e_int, a1, fAdd_int, b1, c1, y2, d1, hj, x0, A1, mFor, r6, g1, r8, s1]
  · obtain ⟨q3, q5, q6, μ7, s1, s2⟩ := e_r2 (p := p) (l := some (.lst (l.map .str))) (y1.mono (show 8 ≤ 300 by decide)) (rangeD 0 8) k none none none none μ4 (d4.pu.mono (by rw [h88]; omega))
    refine ⟨μ7, ?_, (((a4.trans b4).trans c4).trans d4).trans s2⟩
    rw [← hF1, ← hF2]
    rw [← hF2] at s1
    simp [fnM, en0, mSeq, mIfS, mTb, mTru, mBin, mVar, mC, mAsg, mRet, mRetN, mEx, mNext, mIf, mCB, mCons, mNil, mTup, mLst, mAndT, mOrT, mNotT, mAnd, mOr, mNot, mChain, mCall, callR, oName, oTup, oCons, oNil, oSub, Res.seq, MP.f1, f2, fAbs, fMax, fMin, fGt, fLt, fLe, fGe, fSub, fI0, truD, mNo, mSo, mSl, slD, e_int, a1, fAdd_int, b1, c1, y2, d1, hj, mFor, r8, s1]
theorem e_purse {ns : List Int} {i : Nat} {μ : Mem} : ∃ a b : Int, f__law_purse [.scr ns, .int (i : Nat)] μ = .ok (.ref μ.length) (μ ++ [.lst [.int a, .int b, .int 0]]) ∧ 0 ≤ a ∧ 0 ≤ b ∧ b < 2 ^ 100 := by
  have h10 : ((10 : Int)).natAbs < 2 ^ 200 := Nat.lt_of_lt_of_le (by decide : (10 : Int).natAbs < 2 ^ 4) (Nat.pow_le_pow_right (by decide) (by decide))
  have p1 : ∀ μ, fPow (.int 10) (.int 18) μ = .ok (.int (10 ^ 18)) μ := fun μ => fPow_ok (n := 18) h10 (by decide)
  have p2 : ∀ μ, fPow (.int 10) (.int 24) μ = .ok (.int (10 ^ 24)) μ := fun μ => fPow_ok (n := 24) h10 (by decide)
  have m1 : ∀ (i : Int) μ, fMul (.int i) (.int 30011) μ = .ok (.int (i * 30011)) μ := fun i μ => fMul_r (by decide)
  have m2 : ∀ (i : Int) μ, fMul (.int i) (.int 7368787) μ = .ok (.int (i * 7368787)) μ := fun i μ => fMul_r (by decide)
  have m3 : ∀ (i : Int) μ, fMod (.int i) (.int 1000000000000000000000007) μ = .ok (.int (i % 1000000000000000000000007)) μ := fun i μ => fMod_ok (by decide)
  have sl : ∀ μ, fLen [.scr ns] μ = .ok (.int (ns.length : Nat)) μ := fun μ => rfl
  have main : ∀ c : Int, ∃ a b : Int, (mRet (mCel (mCons (mCB fMax (mCons (mC (.int 0)) (mCons (mBin fSub (mCB fAbs (mCons (mVar 2) mNil)) (mBin fPow (mC (.int 10)) (mC (.int 18)))) mNil))) (mCons (mBin fMod (mCB fInt (mCons (mBin fAdd (mBin fAdd (mBin fMul (mVar 2) (mC (.int 30011))) (mBin fMul (mVar 1) (mC (.int 7368787)))) (mC (.int 104729))) mNil)) (mBin fAdd (mBin fPow (mC (.int 10)) (mC (.int 24))) (mC (.int 7)))) (mCons (mC (.int 0)) mNil))))) [some (.scr ns), some (.int (i : Nat)), some (.int c)] μ = .ok (.rt (.ref μ.length)) (μ ++ [.lst [.int a, .int b, .int 0]]) ∧ 0 ≤ a ∧ 0 ≤ b ∧ b < 2 ^ 100 := fun c => by
    refine ⟨if (if c < 0 then -c else c) - 10 ^ 18 > 0 then (if c < 0 then -c else c) - 10 ^ 18 else 0, (c * 30011 + (i : Nat) * 7368787 + 104729) % 1000000000000000000000007, ?_, ?_, Int.emod_nonneg _ (by decide), Int.lt_trans (Int.emod_lt_of_pos _ (by decide)) (by decide)⟩
    · simp [fnM, en0, mSeq, mIfS, mTb, mTru, mBin, mVar, mC, mAsg, mRet, mRetN, mEx, mNext, mIf, mCB, mCons, mNil, mTup, mLst, mAndT, mOrT, mNotT, mAnd, mOr, mNot, mChain, mCall, callR, oName, oTup, oCons, oNil, oSub, Res.seq, MP.f1, f2, fAbs, fMax, fMin, fGt, fLt, fLe, fGe, fSub, fI0, truD, mNo, mSo, mSl, slD, e_int, p1, p2, m1, m2, m3, fAdd_int, mCel]
    · split <;> omega
  unfold f__law_purse m__law_purse
  by_cases hi : (i : Int) < (ns.length : Int)
  · have hi' : i < ns.length := by omega
    have x1 : ∀ μ, fIx (.scr ns) (.int (i : Nat)) μ = .ok (.int ns[i]) μ := fun μ => by
      have e : ixD (.scr ns) (.int (i : Nat)) μ = some (.int ns[i]) := by
        show (atI ns ((i : Nat) : Int)).map D.int = _
        unfold atI ixN
        rw [if_pos (by omega), if_pos (by omega)]
        show Option.map D.int (ns[i]?) = _
        rw [List.getElem?_eq_getElem hi']
        rfl
      unfold fIx
      rw [e]
    obtain ⟨a, b, h1, h2⟩ := main ns[i]
    refine ⟨a, b, ?_, h2⟩
    generalize (mRet (mCel (mCons (mCB fMax (mCons (mC (.int 0)) (mCons (mBin fSub (mCB fAbs (mCons (mVar 2) mNil)) (mBin fPow (mC (.int 10)) (mC (.int 18)))) mNil))) (mCons (mBin fMod (mCB fInt (mCons (mBin fAdd (mBin fAdd (mBin fMul (mVar 2) (mC (.int 30011))) (mBin fMul (mVar 1) (mC (.int 7368787)))) (mC (.int 104729))) mNil)) (mBin fAdd (mBin fPow (mC (.int 10)) (mC (.int 24))) (mC (.int 7)))) (mCons (mC (.int 0)) mNil))))) = R at h1 ⊢
    simp [fnM, en0, mSeq, mIfS, mTb, mTru, mBin, mVar, mC, mAsg, mRet, mRetN, mEx, mNext, mIf, mCB, mCons, mNil, mTup, mLst, mAndT, mOrT, mNotT, mAnd, mOr, mNot, mChain, mCall, callR, oName, oTup, oCons, oNil, oSub, Res.seq, MP.f1, f2, fAbs, fMax, fMin, fGt, fLt, fLe, fGe, fSub, fI0, truD, mNo, mSo, mSl, slD, e_int, sl, hi', x1, h1]
  · have hi' : ¬ i < ns.length := by omega
    obtain ⟨a, b, h1, h2⟩ := main 0
    refine ⟨a, b, ?_, h2⟩
    generalize (mRet (mCel (mCons (mCB fMax (mCons (mC (.int 0)) (mCons (mBin fSub (mCB fAbs (mCons (mVar 2) mNil)) (mBin fPow (mC (.int 10)) (mC (.int 18)))) mNil))) (mCons (mBin fMod (mCB fInt (mCons (mBin fAdd (mBin fAdd (mBin fMul (mVar 2) (mC (.int 30011))) (mBin fMul (mVar 1) (mC (.int 7368787)))) (mC (.int 104729))) mNil)) (mBin fAdd (mBin fPow (mC (.int 10)) (mC (.int 24))) (mC (.int 7)))) (mCons (mC (.int 0)) mNil))))) = R at h1 ⊢
    simp [fnM, en0, mSeq, mIfS, mTb, mTru, mBin, mVar, mC, mAsg, mRet, mRetN, mEx, mNext, mIf, mCB, mCons, mNil, mTup, mLst, mAndT, mOrT, mNotT, mAnd, mOr, mNot, mChain, mCall, callR, oName, oTup, oCons, oNil, oSub, Res.seq, MP.f1, f2, fAbs, fMax, fMin, fGt, fLt, fLe, fGe, fSub, fI0, truD, mNo, mSo, mSl, slD, e_int, sl, hi', h1]
def bL2 : MS := mIfS (mNotT (mTru (mCall 1 f__law_right (mCons (mVar 2) mNil)))) (mRet (mC (.bl false))) mNext
def bL1 : MS := mSeq (mAsg (mCall 2 f__law_purse (mCons (mVar 0) (mCons (mVar 1) mNil))) (oName 2)) (mFor (mRg1 (mC (.int 2))) (oName 3) bL2)
theorem e_turn {p k : Nat} {s o1 o3 : Option D} {μ : Mem} (h : Pu p (k + 240) μ) : ∃ o3' μ', loopI none (oName 3) bL2 (rangeD 0 2) [s, o1, some (.ref p), o3] μ = .ok (.nx [s, o1, some (.ref p), o3']) μ' ∧ Dr p k μ μ' := by
  obtain ⟨μ1, a1, a2⟩ := e_right (p := p) (k := k + 120) (μ := μ) (h.mono (by omega))
  obtain ⟨μ2, b1, b2⟩ := e_right (p := p) (k := k) (μ := μ1) (a2.pu.mono (by omega))
  refine ⟨some (.int (0 + ((1 : Nat) : Int))), μ2, ?_, a2.trans b2⟩
  have e1 : bL2 [s, o1, some (.ref p), some (.int (0 + ((0 : Nat) : Int)))] μ = .ok (.nx [s, o1, some (.ref p), some (.int (0 + ((0 : Nat) : Int)))]) μ1 := by
    unfold bL2
    simp [fnM, en0, mSeq, mIfS, mTb, mTru, mBin, mVar, mC, mAsg, mRet, mRetN, mEx, mNext, mIf, mCB, mCons, mNil, mTup, mLst, mAndT, mOrT, mNotT, mAnd, mOr, mNot, mChain, mCall, callR, oName, oTup, oCons, oNil, oSub, Res.seq, MP.f1, f2, fAbs, fMax, fMin, fGt, fLt, fLe, fGe, fSub, fI0, truD, mNo, mSo, mSl, slD, e_int, a1]
  have e2 : bL2 [s, o1, some (.ref p), some (.int (0 + ((1 : Nat) : Int)))] μ1 = .ok (.nx [s, o1, some (.ref p), some (.int (0 + ((1 : Nat) : Int)))]) μ2 := by
    unfold bL2
    simp [fnM, en0, mSeq, mIfS, mTb, mTru, mBin, mVar, mC, mAsg, mRet, mRetN, mEx, mNext, mIf, mCB, mCons, mNil, mTup, mLst, mAndT, mOrT, mNotT, mAnd, mOr, mNot, mChain, mCall, callR, oName, oTup, oCons, oNil, oSub, Res.seq, MP.f1, f2, fAbs, fMax, fMin, fGt, fLt, fLe, fGe, fSub, fI0, truD, mNo, mSo, mSl, slD, e_int, b1]
  rw [show rangeD 0 2 = [.int (0 + ((0 : Nat) : Int)), .int (0 + ((1 : Nat) : Int))] from rfl, loopI_cons (e1 := [s, o1, some (.ref p), some (.int (0 + ((0 : Nat) : Int)))]) (μ1 := μ) rfl, e1]
  show loopI none (oName 3) bL2 _ _ _ = _
  rw [loopI_cons (e1 := [s, o1, some (.ref p), some (.int (0 + ((1 : Nat) : Int)))]) (μ1 := μ1) rfl, e2]
  exact loopI_nil
end Lw
end
set_option Elab.async false
set_option linter.all false
set_option maxRecDepth 100000
set_option maxHeartbeats 4000000
noncomputable section
namespace Lw
open PySem PySem.Spec PyProof.Rows L2 MP
theorem e_spots {ns : List Int} : ∀ (is : List Nat) (o1 o2 o3 : Option D) (μ : Mem), ∃ q1 q2 q3 μ', loopI none (oName 1) bL1 (is.map fun i => .int ((i : Nat) : Int)) [some (.scr ns), o1, o2, o3] μ = .ok (.nx [some (.scr ns), q1, q2, q3]) μ'
  | [], o1, o2, o3, μ => ⟨o1, o2, o3, μ, loopI_nil⟩
  | i :: is, o1, o2, o3, μ => by
    obtain ⟨a, b, h1, h2, h3, h4⟩ := e_purse (ns := ns) (i := i) (μ := μ)
    have hp : Pu μ.length (0 + 240) (μ ++ [.lst [.int a, .int b, .int 0]]) := ⟨_, by simp, a, b, 0, rfl, h2, h3, h4, by decide, by decide⟩
    obtain ⟨o3', μ1, t1, t2⟩ := e_turn (p := μ.length) (k := 0) (s := some (.scr ns)) (o1 := some (.int ((i : Nat) : Int))) (o3 := o3) hp
    have hb : bL1 [some (.scr ns), some (.int ((i : Nat) : Int)), o2, o3] μ = .ok (.nx [some (.scr ns), some (.int ((i : Nat) : Int)), some (.ref μ.length), o3']) μ1 := by
      have r2 : ∀ (e : En) μ, mRg1 (mC (.int 2)) e μ = .ok (rangeD 0 2, none) μ := fun e μ => e_rg1 (m := 2) (by decide) (by decide) rfl
      obtain ⟨F, hF⟩ : ∃ F, F = bL2 := ⟨_, rfl⟩
      unfold bL1
      rw [← hF] at t1 ⊢
      simp [fnM, en0, mSeq, mIfS, mTb, mTru, mBin, mVar, mC, mAsg, mRet, mRetN, mEx, mNext, mIf, mCB, mCons, mNil, mTup, mLst, mAndT, mOrT, mNotT, mAnd, mOr, mNot, mChain, mCall, callR, oName, oTup, oCons, oNil, oSub, Res.seq, MP.f1, f2, fAbs, fMax, fMin, fGt, fLt, fLe, fGe, fSub, fI0, truD, mNo, mSo, mSl, slD, e_int, h1, mFor, r2, t1]
    obtain ⟨q1, q2, q3, μ2, h5⟩ := e_spots is (some (.int ((i : Nat) : Int))) (some (.ref μ.length)) o3' μ1
    refine ⟨q1, q2, q3, μ2, ?_⟩
    rw [List.map_cons, loopI_cons (e1 := [some (.scr ns), some (.int ((i : Nat) : Int)), o2, o3]) (μ1 := μ) rfl, hb]
    exact h5
theorem e_law (ns : List Int) (μ : Mem) : ∃ μ', f_law [.scr ns] μ = .ok (.bl true) μ' := by
  have hm : m_law = mSeq (mFor (mRg1 (mCB fMax (mCons (mC (.int 1)) (mCons (mCB fMin (mCons (mC (.int 6)) (mCons (mCB fLen (mCons (mVar 0) mNil)) mNil))) mNil)))) (oName 1) bL1) (mRet (mC (.bl true))) := rfl
  obtain ⟨n, hn0, hn6, hn⟩ : ∃ n : Int, 0 ≤ n ∧ n ≤ 6 ∧ ∀ (e : En) μ, e[0]? = some (some (.scr ns)) → mCB fMax (mCons (mC (.int 1)) (mCons (mCB fMin (mCons (mC (.int 6)) (mCons (mCB fLen (mCons (mVar 0) mNil)) mNil))) mNil)) e μ = .ok (.int n) μ := by
    have sl : ∀ μ, fLen [.scr ns] μ = .ok (.int (ns.length : Nat)) μ := fun μ => rfl
    refine ⟨if (if (ns.length : Int) < 6 then (ns.length : Int) else 6) > 1 then (if (ns.length : Int) < 6 then (ns.length : Int) else 6) else 1, ?_, ?_, fun e μ he => ?_⟩
    · split <;> omega
    · split
      · split <;> omega
      · omega
    · simp only [mCB, mCons, mNil, mC, mVar, he, Res.bind_ok, sl]
      rfl
  have hr : rangeD 0 n.toNat = (List.range n.toNat).map fun i => D.int ((i : Nat) : Int) := by
    unfold rangeD
    apply List.map_congr_left
    intro i _
    rw [Int.zero_add]
  obtain ⟨q1, q2, q3, μ', h⟩ := e_spots (ns := ns) (List.range n.toNat) none none none μ
  rw [← hr] at h
  refine ⟨μ', ?_⟩
  unfold f_law
  rw [hm]
  have hg : ∀ (e : En) μ, e[0]? = some (some (.scr ns)) → mRg1 (mCB fMax (mCons (mC (.int 1)) (mCons (mCB fMin (mCons (mC (.int 6)) (mCons (mCB fLen (mCons (mVar 0) mNil)) mNil))) mNil))) e μ = .ok (rangeD 0 n.toNat, none) μ := fun e μ he => e_rg1 hn0 (by omega) (hn e μ he)
  have hf : mFor (mRg1 (mCB fMax (mCons (mC (.int 1)) (mCons (mCB fMin (mCons (mC (.int 6)) (mCons (mCB fLen (mCons (mVar 0) mNil)) mNil))) mNil)))) (oName 1) bL1 [some (.scr ns), none, none, none] μ = .ok (.nx [some (.scr ns), q1, q2, q3]) μ' := by
    unfold mFor
    rw [hg _ _ rfl]
    exact h
  show (match (mSeq _ _ [some (.scr ns), none, none, none] μ) with
    | .ok (.rt d) μ' => Res.ok d μ'
    | .ok (.nx _) μ' => .ok .non μ'
    | .exc C x _ μ' => .exc C x [] μ'
    | _ => .stuck) = _
  rw [mSeq, hf]
  rfl
end Lw
end
set_option Elab.async false
set_option linter.all false
set_option maxRecDepth 100000
set_option maxHeartbeats 0
noncomputable section
namespace Lw
open PySem PySem.Spec PyProof.Rows L2 MP
def inBody (i : Nat) : Stmt → Stmt
  | .ClassDef _ _ _ b _ _ _ _ _ _ _ => b.getD i (.Pass ⟨0, 0, 0, 0⟩)
  | s => s
abbrev sIni : Stmt := inBody 0 (top 1)
def dTop (x : Str) (i : Nat) : He.DefD := ⟨(x, none), x, x, defArgs (top i), defBody (top i), defScope (top i), [], []⟩
def dIni : He.DefD := ⟨("TellError", some "__init__"), "__init__", "TellError.__init__", defArgs sIni, defBody sIni, defScope sIni, [], []⟩
def fn : List He.DefD := [dIni, dTop "is_name" 6, dTop "show_told" 8, dTop "read_told" 10, dTop "_law_purse" 12, dTop "_law_coin" 13, dTop "_law_menu" 14, dTop "_law_is_title" 15, dTop "_law_told_of" 16, dTop "_law_caught" 17, dTop "_law_odd" 18, dTop "_law_marred" 19, dTop "_law_right" 20, dTop "law" 21]
def fa : List He.Fa := [.str "LETTERS" "abcdefghijklmnopqrstuvwxyz", .free "abs", .free "all", .free "int", .free "isinstance", .free "len", .free "list", .free "max", .free "min", .free "range", .free "zip", .glo "InvalidName", .glo "TellError", .glo "Unreadable",
  .glo "_law_purse", .glo "_law_coin", .glo "is_name", .glo "show_told", .glo "read_told", .glo "_law_menu", .glo "_law_is_title", .glo "_law_told_of", .glo "_law_caught", .glo "_law_odd", .glo "_law_marred", .glo "_law_right", .glo "law"]
def ex (K : PySem.W.Frag) : Bool := exB K "Unreadable" "TellError" && (decide (PySem.W.exmOne K (.ref (He.ga K "Unreadable")) (.ref (He.ga K "TellError")) = some true) &&
  (decide (PySem.W.kitOne K (.ref (He.ga K "Unreadable")) (.ref (He.ga K "InvalidName")) = some false) && decide (PySem.W.kitOne K (.ref (He.ga K "Unreadable")) (.ref (He.ga K "Unreadable")) = some true)))
theorem txt {K : PySem.W.Frag} {h : Heap} {mg : Str → Option Value} (X : K.In h) (G : h.Ns mainGlobals mg) (c : SaysE ex fa fn K) : Txt K mg := by
  obtain ⟨c1, c2⟩ := c.d
  unfold ex at c2
  obtain ⟨x1, c2⟩ := Bool.and_eq_true_iff.mp c2
  obtain ⟨x2, c2⟩ := Bool.and_eq_true_iff.mp c2
  obtain ⟨x3, x4⟩ := Bool.and_eq_true_iff.mp c2
  exact { c_LETTERS := He.str_ok X G (c1.fact 0 rfl), n_abs := He.free_ok X G (c1.fact 1 rfl), n_all := He.free_ok X G (c1.fact 2 rfl), n_int := He.free_ok X G (c1.fact 3 rfl), n_isinstance := He.free_ok X G (c1.fact 4 rfl), n_len := He.free_ok X G (c1.fact 5 rfl),
          n_list := He.free_ok X G (c1.fact 6 rfl), n_max := He.free_ok X G (c1.fact 7 rfl), n_min := He.free_ok X G (c1.fact 8 rfl), n_range := He.free_ok X G (c1.fact 9 rfl), n_zip := He.free_ok X G (c1.fact 10 rfl),
          e_Unreadable_TellError := of_decide_eq_true x2, g_InvalidName := He.glo_ok X G (c1.fact 11 rfl), g_TellError := He.glo_ok X G (c1.fact 12 rfl), g_Unreadable := He.glo_ok X G (c1.fact 13 rfl),
          k_Unreadable_InvalidName := of_decide_eq_true x3, k_Unreadable_Unreadable := of_decide_eq_true x4, x_Unreadable := exB_ok x1,
          g__law_purse := He.glo_ok X G (c1.fact 14 rfl), g__law_coin := He.glo_ok X G (c1.fact 15 rfl), g_is_name := He.glo_ok X G (c1.fact 16 rfl), g_show_told := He.glo_ok X G (c1.fact 17 rfl), g_read_told := He.glo_ok X G (c1.fact 18 rfl),
          g__law_menu := He.glo_ok X G (c1.fact 19 rfl), g__law_is_title := He.glo_ok X G (c1.fact 20 rfl), g__law_told_of := He.glo_ok X G (c1.fact 21 rfl), g__law_caught := He.glo_ok X G (c1.fact 22 rfl), g__law_odd := He.glo_ok X G (c1.fact 23 rfl),
          g__law_marred := He.glo_ok X G (c1.fact 24 rfl), g__law_right := He.glo_ok X G (c1.fact 25 rfl), g_law := He.glo_ok X G (c1.fact 26 rfl) }
section
variable {P : Program} {w : World} {K : PySem.W.Frag} {mg : Str → Option Value} {base : Heap}
theorem sc_ini : FnScope ["self", "value"] ["self", "value"] (defScope sIni) := ⟨rfl, rfl, rfl, by decide +kernel, rfl, by decide +kernel, by decide +kernel⟩
theorem ini (c : He.SaysD fa fn K) : Ini P w K mg base "TellError" := by
  obtain ⟨fd, F⟩ := c.def_ 0 (d := dIni) rfl
  refine ⟨fd, ok_ini (st := sIni) F sc_ini (fun cdv A outer s H E => ?_), ?_⟩
  · exact pss_one (ps_ost (pe_var (i := 0) rfl (Or.inl rfl)) (pe_var (i := 1) rfl (Or.inl rfl)))
  · exact FunD.bindsN F fun _ _ _ _ _ _ us hl => match us, hl with | [_, _], _ => rfl
theorem all_fn (T : Txt K mg) (c : He.SaysD fa fn K) : FncK P w K mg base "law" 6 ["script"] f_law := by
  have hI := ini (P := P) (w := w) (mg := mg) (base := base) c
  have h1 : Fnc P w K mg base "_law_purse" 1 2 f__law_purse := F__law_purse T (c.def_ 4 (d := dTop "_law_purse" 12) rfl)
  have h2 : Fnc P w K mg base "_law_coin" 1 2 f__law_coin := F__law_coin T (c.def_ 5 (d := dTop "_law_coin" 13) rfl)
  have h3 : Fnc P w K mg base "is_name" 1 1 f_is_name := F_is_name T (c.def_ 1 (d := dTop "is_name" 6) rfl)
  have h4 : Fnc P w K mg base "show_told" 1 1 f_show_told := F_show_told T (c.def_ 2 (d := dTop "show_told" 8) rfl)
  have h5 : Fnc P w K mg base "read_told" 3 1 f_read_told := F_read_told T (c.def_ 3 (d := dTop "read_told" 10) rfl) h3 h4 hI
  have h5k : FncK P w K mg base "read_told" 3 ["text"] f_read_told := FK_read_told T (c.def_ 3 (d := dTop "read_told" 10) rfl) h3 h4 hI
  have h6 : Fnc P w K mg base "_law_menu" 2 2 f__law_menu := F__law_menu T (c.def_ 6 (d := dTop "_law_menu" 14) rfl) h2
  have h7 : Fnc P w K mg base "_law_is_title" 1 1 f__law_is_title := F__law_is_title T (c.def_ 7 (d := dTop "_law_is_title" 15) rfl)
  have h8 : Fnc P w K mg base "_law_told_of" 2 1 f__law_told_of := (F__law_told_of T (c.def_ 8 (d := dTop "_law_told_of" 16) rfl) h7).seal
  have h9 : Fnc P w K mg base "_law_caught" 4 2 f__law_caught := F__law_caught T (c.def_ 9 (d := dTop "_law_caught" 17) rfl) h4 h5 h5k
  have h10 : Fnc P w K mg base "_law_odd" 2 2 f__law_odd := F__law_odd T (c.def_ 10 (d := dTop "_law_odd" 18) rfl) h2
  have h11 : Fnc P w K mg base "_law_marred" 3 2 f__law_marred := (F__law_marred T (c.def_ 11 (d := dTop "_law_marred" 19) rfl) h2 h10).seal
  have h12 : Fnc P w K mg base "_law_right" 5 1 f__law_right := F__law_right T (c.def_ 12 (d := dTop "_law_right" 20) rfl) h9 h2 h11 h6 h8
  exact FK_law T (c.def_ 13 (d := dTop "law" 21) rfl) h1 h12
end
abbrev R : PySem.W.OpenRow := PySem.W.OpenLaw.row PySem.Challenge.rw_toldatlast_k55_tellings_that_are_none
abbrev hk : PySem.W.Hook := hookE ex 4 fa fn
def ob (s : PySem.W.SharedT) : He.AlD := obsEG ex 4 fa fn (HandSHeadRun.getT s)
theorem ob_eq (s : PySem.W.SharedT) : ob s = hk.obs s.abs := obsEG_eq (HandSHeadRun.getT_eq s)
def loose : List PySem.Str := (["TellError", "InvalidName", "Unreadable", "LETTERS", "is_name", "show_told", "read_told", "_law_purse", "_law_coin", "_law_menu", "_law_is_title", "_law_told_of", "_law_caught", "_law_odd", "_law_marred", "_law_right"] : List PySem.Str)
theorem run (w : World) : HandSHeadRun.RunEq R (PySem.W.view R.prog [21]) hk ob 4000 loose w := by
  intro os
  kernel_rfl
end Lw
open PySem PySem.W PySem.Calls PyProof.Rows
theorem PySem.Challenge.cw_toldatlast_k55_tellings_that_are_none_holds : PySem.Challenge.rw_toldatlast_k55_tellings_that_are_none.Holds := by
  w_on; o_law
  refine HandSHeadRun.head_any (r := OpenLaw.row PySem.Challenge.rw_toldatlast_k55_tellings_that_are_none) (q := view (OpenLaw.row PySem.Challenge.rw_toldatlast_k55_tellings_that_are_none).prog [21]) (H := Lw.hk) (ob := Lw.ob) (M := 4000) (loose := Lw.loose) (d := HandSHeadRun.topDef (OpenLaw.row PySem.Challenge.rw_toldatlast_k55_tellings_that_are_none).prog 21) (kwd := []) Lw.ob_eq
    (by kernel_rfl) (fun s => by kernel_rfl) Lw.run (by kernel_rfl) (by kernel_rfl) (by kernel_rfl) (by rfl) (by first | assumption | decide +kernel) (by decide +kernel) ⟨rfl, rfl, rfl, rfl, rfl, by decide +kernel⟩ ?hw ?hc
  case hw => w_witness2
  case hc =>
    refine L2.walk_ofE (l := PySem.Challenge.rw_toldatlast_k55_tellings_that_are_none) (n := 63) (k := 6) (x := "script") (CX := fun _ _ _ _ _ _ => False) rfl (by decide) (by kernel_rfl) ⟨rfl, by decide, by decide⟩ ?F (fun _ _ _ _ z => z)
    intro w mg fa h Y G hmg0
    obtain ⟨K, KX, c⟩ := Y
    have hmg : mg ("law" : PySem.Str) = some (.ref fa) := by
      have e : (HandSHeadRun.topDef (OpenLaw.row PySem.Challenge.rw_toldatlast_k55_tellings_that_are_none).prog 21).name = ("law" : PySem.Str) := by kernel_rfl
      rw [← e]
      exact hmg0
    have T := Lw.txt KX G c
    have e := hmg.symm.trans T.g_law
    cases e
    obtain ⟨c1, c2⟩ := c.d
    have G := Lw.all_fn (P := (PySem.Challenge.rw_toldatlast_k55_tellings_that_are_none).prog) (w := w) (base := h) T c1
    obtain ⟨fd, h1, h2, oc, od, osl, h3⟩ := G.ex
    refine ⟨K, fd, (fun vs H Q _ => MP.spM K 1 Lw.f_law vs H Q fun _ _ _ => False), KX, fun s u => (h2 s [u] rfl).2, fun H a ns hl hO hS => MP.sp_law (F := Lw.f_law) hO hS (Lw.e_law ns []), fun base _ _ => MP.to0 (MP.FncK.same G (Lw.all_fn (P := (PySem.Challenge.rw_toldatlast_k55_tellings_that_are_none).prog) (w := w) (base := base) T c1) h3)⟩
end
