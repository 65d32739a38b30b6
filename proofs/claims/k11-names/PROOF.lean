import PyProof.Rows.All
import PySem.Challenge.RW_backwater_k11_names
import Wide.All
import OpenK.AllK
import Wide.FinOn
import HandS.ForMost
import HandS.ForExc
import HandS.Defaults
import HandS.HeadHook2
import HandS.WideBits
import HandS.CallSlots
import PyProof.ReprDict
import PyProof.ReprReads
import PyProof.ReprRoads
import PyProof.CallFns
import HandS.TupAny
import HandS.IsInst
import HandS.More
import HandS.SetFor
import HandS.Ends
import HandS.HeadEnd
import HandS.MakeKw
import HandS.MakeKwOnly
import HandS.Head0
import HandS.Head1
import HandS.Head2
import HandS.HeadHook1
set_option Elab.async false
set_option linter.all false
set_option maxRecDepth 100000
set_option maxHeartbeats 4000000
namespace Bw
open PySem PySem.Spec PyProof.Rows L2

/-! ### data -/
inductive Tag where
  | lst | sq | tup | dK (ks : List Key) | dT (ks : List (List Key)) | ins (c : Str) (fs : List Str)
  deriving DecidableEq
inductive D where
  | non | bl (b : Bool) | int (i : Int) | str (x : Str) | node (t : Tag) (ds : List D) | cell (l k : Nat) | glo (x : Str) | ty (n : String)
abbrev D.lst (ds : List D) : D := .node .lst ds
abbrev D.tup (ds : List D) : D := .node .tup ds
inductive CE where
  | live (t : Tag) (ds : List D) | lock (t : Tag) (ds : List D) | dead
structure Sto where
  out : List (List CE)
  loc : List CE
namespace Sto
abbrev lvl (s : Sto) : Nat := s.out.length
def get (s : Sto) (l k : Nat) : Option CE := if l = s.out.length then s.loc[k]? else (s.out[l]?).bind fun a => a[k]?
def set (s : Sto) (l k : Nat) (c : CE) : Sto := if l = s.out.length then { s with loc := s.loc.set k c } else { s with out := s.out.modify l fun a => a.set k c }
def push (s : Sto) : Sto := ⟨s.out ++ [s.loc], []⟩
def pop (s : Sto) : Sto := ⟨s.out.dropLast, s.out.getLastD []⟩
def alloc (s : Sto) (c : CE) : Sto := { s with loc := s.loc ++ [c] }
end Sto
mutual
/-- every cell that it names stands at level n or below -/
def D.le (n : Nat) : D → Bool
  | .node _ ds => D.leL n ds
  | .cell l _ => decide (l ≤ n)
  | _ => true
def D.leL (n : Nat) : List D → Bool
  | [] => true
  | d :: ds => d.le n && D.leL n ds
end

/-- where the cells stand; what is locked -/
structure CM where
  at_ : Nat → Nat → Option Addr
  lk : Hp
structure MExt (m m' : CM) : Prop where
  at_ : ∀ l k a, m.at_ l k = some a → m'.at_ l k = some a
  lk : m'.lk = m.lk
  nw : ∀ l k a, m'.at_ l k = some a → m.at_ l k = some a ∨ m.lk a = none
def AExt (m m' : CM) : Prop := ∀ l k a, m.at_ l k = some a → m'.at_ l k = some a
theorem MExt.refl (m : CM) : MExt m m := ⟨fun _ _ _ h => h, rfl, fun _ _ _ h => .inl h⟩
theorem MExt.trans {m m' m'' : CM} (a : MExt m m') (b : MExt m' m'') : MExt m m'' := ⟨fun l k c h => b.at_ l k c (a.at_ l k c h), b.lk.trans a.lk, fun l k c h => (b.nw l k c h).elim (fun z => a.nw l k c z) fun z => .inr (by rw [← a.lk]; exact z)⟩

section
variable (K : PySem.W.Frag)
/-- a frozen node -/
def FzN (Hf : Hp) (a : Addr) (t : Tag) (vs : List V) : Prop := match t with
  | .lst => Hf a = some (.lst vs)
  | .sq => SqL K Hf a vs
  | .tup => SqT K Hf a vs
  | .dK ks => ks.length = vs.length ∧ ∃ o, Hf a = some (.frz o (.dK (ks.zip vs)))
  | .dT ks => ks.length = vs.length ∧ ∃ o, Hf a = some (.frz o (.dT (ks.zip vs)))
  | .ins c fs => fs.length = vs.length ∧ ∃ dx, Hf a = some (.ins (He.ga K c) dx (fs.zip vs))
/-- a live cell's object -/
def LvN (H : Hp) (a : Addr) (t : Tag) (vs : List V) : Prop := match t with
  | .lst => H a = some (.lst vs)
  | .sq => False
  | .tup => False
  | .dK ks => ks.length = vs.length ∧ H a = some (.dK (ks.zip vs))
  | .dT ks => ks.length = vs.length ∧ H a = some (.dT (ks.zip vs))
  | .ins c fs => fs.length = vs.length ∧ ∃ dx, H a = some (.ins (He.ga K c) dx (fs.zip vs))
/-- a locked list or dict -/
def LkN (H : Hp) (a : Addr) (t : Tag) (vs : List V) : Prop := match t with
  | .lst => H a = some (.lst vs)
  | .dK ks => ks.length = vs.length ∧ ∃ o, H a = some (.frz o (.dK (ks.zip vs)))
  | .dT ks => ks.length = vs.length ∧ ∃ o, H a = some (.frz o (.dT (ks.zip vs)))
  | _ => False
/-- what may be read -/
def RdN (H : Hp) (a : Addr) (t : Tag) (vs : List V) : Prop := match t with
  | .lst => H a = some (.lst vs)
  | .sq => SqL K H a vs
  | .tup => SqT K H a vs
  | .dK ks => ks.length = vs.length ∧ Rd H a (.dK (ks.zip vs))
  | .dT ks => ks.length = vs.length ∧ Rd H a (.dT (ks.zip vs))
  | .ins c fs => fs.length = vs.length ∧ ∃ dx, H a = some (.ins (He.ga K c) dx (fs.zip vs))
end

theorem sameT {K : PySem.W.Frag} {H H' : Hp} {a : Addr} {xs : List V} (e : Same H H') (h : SqT K H a xs) : SqT K H' a xs := by
  rcases h with (h | ⟨o, h⟩) | h
  · exact .inl (.inl (e _ _ h))
  · exact .inl (.inr ⟨o, e _ _ h⟩)
  · exact .inr h
theorem FzN.mono {K : PySem.W.Frag} {H H' : Hp} (e : Same H H') {a : Addr} {t : Tag} {vs : List V} (h : FzN K H a t vs) : FzN K H' a t vs := by
  cases t with
  | lst => exact e _ _ h
  | sq => exact e.seq h
  | tup => exact sameT e h
  | dK ks => obtain ⟨l, o, h⟩ := h; exact ⟨l, o, e _ _ h⟩
  | dT ks => obtain ⟨l, o, h⟩ := h; exact ⟨l, o, e _ _ h⟩
  | ins c fs => obtain ⟨l, o, h⟩ := h; exact ⟨l, o, e _ _ h⟩
theorem FzN.rd {K : PySem.W.Frag} {H H' : Hp} (e : Same H H') {a : Addr} {t : Tag} {vs : List V} (h : FzN K H a t vs) : RdN K H' a t vs := by
  cases t with
  | lst => exact e _ _ h
  | sq => exact e.seq h
  | tup => exact sameT e h
  | dK ks => obtain ⟨l, o, h⟩ := h; exact ⟨l, .inr ⟨o, e _ _ h⟩⟩
  | dT ks => obtain ⟨l, o, h⟩ := h; exact ⟨l, .inr ⟨o, e _ _ h⟩⟩
  | ins c fs => obtain ⟨l, o, h⟩ := h; exact ⟨l, o, e _ _ h⟩
theorem LvN.rd {K : PySem.W.Frag} {H : Hp} {a : Addr} {t : Tag} {vs : List V} (h : LvN K H a t vs) : RdN K H a t vs := by
  cases t with
  | lst => exact h
  | sq => exact h.elim
  | tup => exact h.elim
  | dK ks => exact ⟨h.1, .inl h.2⟩
  | dT ks => exact ⟨h.1, .inl h.2⟩
  | ins c fs => exact h
theorem LkN.rd {K : PySem.W.Frag} {H H' : Hp} (e : Same H H') {a : Addr} {t : Tag} {vs : List V} (h : LkN H a t vs) : RdN K H' a t vs := by
  cases t with
  | dK ks => obtain ⟨l, o, h⟩ := h; exact ⟨l, .inr ⟨o, e _ _ h⟩⟩
  | dT ks => obtain ⟨l, o, h⟩ := h; exact ⟨l, .inr ⟨o, e _ _ h⟩⟩
  | lst => exact e _ _ h
  | sq => exact h.elim
  | tup => exact h.elim
  | ins c fs => exact h.elim

section
variable (K : PySem.W.Frag) (m : CM) (Hf : Hp)
mutual
/-- v is d -/
def Rep : D → V → Prop
  | .non, v => v = .non
  | .bl b, v => v = .bl b
  | .int i, v => v = .int i
  | .str x, v => v = .str x
  | .cell l k, v => ∃ a, m.at_ l k = some a ∧ v = .ref a
  | .glo x, v => v = .ref (He.ga K x)
  | .ty n, v => v = .ty n
  | .node t ds, v => ∃ a vs, v = .ref a ∧ FzN K Hf a t vs ∧ RepL ds vs
def RepL : List D → List V → Prop
  | [], vs => vs = []
  | d :: ds, vs => ∃ v r, vs = v :: r ∧ Rep d v ∧ RepL ds r
end
end
section
variable {K : PySem.W.Frag} {m m' : CM} {Hf Hf' : Hp}
mutual
theorem Rep.monoA (em : AExt m m') (eh : Same Hf Hf') : ∀ {d : D} {v : V}, Rep K m Hf d v → Rep K m' Hf' d v
  | .non, _, h => h
  | .bl _, _, h => h
  | .int _, _, h => h
  | .str _, _, h => h
  | .cell _ _, _, h => by
    unfold Rep at h ⊢
    obtain ⟨a, h1, h2⟩ := h
    exact ⟨a, em _ _ _ h1, h2⟩
  | .glo _, _, h => h
  | .ty _, _, h => h
  | .node t ds, _, h => by
    unfold Rep at h ⊢
    obtain ⟨a, vs, h1, h2, h3⟩ := h
    exact ⟨a, vs, h1, h2.mono eh, RepL.monoA em eh h3⟩
theorem RepL.monoA (em : AExt m m') (eh : Same Hf Hf') : ∀ {ds : List D} {vs : List V}, RepL K m Hf ds vs → RepL K m' Hf' ds vs
  | [], _, h => h
  | d :: ds, _, h => by
    unfold RepL at h ⊢
    obtain ⟨v, r, h1, h2, h3⟩ := h
    exact ⟨v, r, h1, Rep.monoA em eh h2, RepL.monoA em eh h3⟩
end
theorem Rep.mono {d : D} {v : V} (em : MExt m m') (eh : Same Hf Hf') (h : Rep K m Hf d v) : Rep K m' Hf' d v := h.monoA em.at_ eh
theorem RepL.mono {ds : List D} {vs : List V} (em : MExt m m') (eh : Same Hf Hf') (h : RepL K m Hf ds vs) : RepL K m' Hf' ds vs := h.monoA em.at_ eh
theorem Rep.atEq {d : D} {v : V} (h : Rep K m Hf d v) (e : m.at_ = m'.at_ := by rfl) : Rep K m' Hf d v := h.monoA (fun l k a z => by rw [← e]; exact z) (Same.refl _)
theorem RepL.atEq {ds : List D} {vs : List V} (h : RepL K m Hf ds vs) (e : m.at_ = m'.at_ := by rfl) : RepL K m' Hf ds vs := h.monoA (fun l k a z => by rw [← e]; exact z) (Same.refl _)
mutual
theorem Rep.cut {n : Nat} (em : ∀ l k a, l ≤ n → m.at_ l k = some a → m'.at_ l k = some a) : ∀ {d : D} {v : V}, d.le n = true → Rep K m Hf d v → Rep K m' Hf d v
  | .non, _, _, h => h
  | .bl _, _, _, h => h
  | .int _, _, _, h => h
  | .str _, _, _, h => h
  | .cell l k, _, hl, h => by
    unfold Rep at h ⊢
    unfold D.le at hl
    obtain ⟨a, h1, h2⟩ := h
    exact ⟨a, em _ _ _ (of_decide_eq_true hl) h1, h2⟩
  | .glo _, _, _, h => h
  | .ty _, _, _, h => h
  | .node t ds, _, hl, h => by
    unfold Rep at h ⊢
    unfold D.le at hl
    obtain ⟨a, vs, h1, h2, h3⟩ := h
    exact ⟨a, vs, h1, h2, RepL.cut em hl h3⟩
theorem RepL.cut {n : Nat} (em : ∀ l k a, l ≤ n → m.at_ l k = some a → m'.at_ l k = some a) : ∀ {ds : List D} {vs : List V}, D.leL n ds = true → RepL K m Hf ds vs → RepL K m' Hf ds vs
  | [], _, _, h => h
  | d :: ds, _, hl, h => by
    unfold RepL at h ⊢
    unfold D.leL at hl
    rw [Bool.and_eq_true] at hl
    obtain ⟨v, r, h1, h2, h3⟩ := h
    exact ⟨v, r, h1, Rep.cut em hl.1 h2, RepL.cut em hl.2 h3⟩
end
theorem RepL.length : ∀ {ds : List D} {vs : List V}, RepL K m Hf ds vs → vs.length = ds.length
  | [], _, h => by unfold RepL at h; subst h; rfl
  | d :: ds, _, h => by
    unfold RepL at h
    obtain ⟨v, r, rfl, _, h3⟩ := h
    exact congrArg Nat.succ (RepL.length h3)
theorem RepL.nil : RepL K m Hf [] [] := by unfold RepL; rfl
theorem RepL.cons {d : D} {v : V} {ds : List D} {vs : List V} (h : Rep K m Hf d v) (t : RepL K m Hf ds vs) : RepL K m Hf (d :: ds) (v :: vs) := by unfold RepL; exact ⟨v, vs, rfl, h, t⟩
theorem RepL.consI {d : D} {ds : List D} {vs : List V} (h : RepL K m Hf (d :: ds) vs) : ∃ v r, vs = v :: r ∧ Rep K m Hf d v ∧ RepL K m Hf ds r := by unfold RepL at h; exact h
theorem RepL.nilI {vs : List V} (h : RepL K m Hf [] vs) : vs = [] := by unfold RepL at h; exact h
theorem RepL.append : ∀ {ds es : List D} {vs us : List V}, RepL K m Hf ds vs → RepL K m Hf es us → RepL K m Hf (ds ++ es) (vs ++ us)
  | [], _, _, _, h, h' => by rw [h.nilI]; exact h'
  | d :: ds, _, _, _, h, h' => by
    obtain ⟨v, r, rfl, h1, h2⟩ := h.consI
    exact RepL.cons h1 (RepL.append h2 h')
theorem RepL.get : ∀ {ds : List D} {vs : List V} {i : Nat} {d : D}, RepL K m Hf ds vs → ds[i]? = some d → ∃ v, vs[i]? = some v ∧ Rep K m Hf d v
  | [], _, _, _, _, e => by simp at e
  | d :: ds, _, 0, _, h, e => by
    obtain ⟨v, r, rfl, h1, h2⟩ := h.consI
    simp at e
    subst e
    exact ⟨v, rfl, h1⟩
  | d :: ds, _, i + 1, _, h, e => by
    obtain ⟨v, r, rfl, h1, h2⟩ := h.consI
    obtain ⟨u, q1, q2⟩ := RepL.get (i := i) h2 (by simpa using e)
    exact ⟨u, by simpa using q1, q2⟩
theorem RepL.getV : ∀ {ds : List D} {vs : List V} {i : Nat} {v : V}, RepL K m Hf ds vs → vs[i]? = some v → ∃ d, ds[i]? = some d ∧ Rep K m Hf d v
  | [], _, _, _, h, e => by rw [h.nilI] at e; simp at e
  | d :: ds, _, 0, _, h, e => by
    obtain ⟨v, r, rfl, h1, h2⟩ := h.consI
    simp at e
    subst e
    exact ⟨d, rfl, h1⟩
  | d :: ds, _, i + 1, _, h, e => by
    obtain ⟨v, r, rfl, h1, h2⟩ := h.consI
    obtain ⟨u, q1, q2⟩ := RepL.getV (i := i) h2 (by simpa using e)
    exact ⟨u, by simpa using q1, q2⟩
theorem RepL.set {d : D} {v : V} (hd : Rep K m Hf d v) : ∀ {ds : List D} {vs : List V} (i : Nat), RepL K m Hf ds vs → RepL K m Hf (ds.set i d) (vs.set i v)
  | [], _, _, h => by rw [h.nilI]; exact RepL.nil
  | _ :: _, _, 0, h => by
    obtain ⟨u, r, rfl, h1, h2⟩ := h.consI
    exact RepL.cons hd h2
  | _ :: _, _, i + 1, h => by
    obtain ⟨u, r, rfl, h1, h2⟩ := h.consI
    exact RepL.cons h1 (RepL.set hd i h2)
theorem RepL.take : ∀ {ds : List D} {vs : List V} (i : Nat), RepL K m Hf ds vs → RepL K m Hf (ds.take i) (vs.take i)
  | _, _, 0, _ => by simp; exact RepL.nil
  | [], _, i + 1, h => by rw [h.nilI]; exact RepL.nil
  | d :: ds, _, i + 1, h => by
    obtain ⟨u, r, rfl, h1, h2⟩ := h.consI
    exact RepL.cons h1 (RepL.take i h2)
theorem RepL.drop : ∀ {ds : List D} {vs : List V} (i : Nat), RepL K m Hf ds vs → RepL K m Hf (ds.drop i) (vs.drop i)
  | _, _, 0, h => by simpa using h
  | [], _, i + 1, h => by rw [h.nilI]; exact RepL.nil
  | d :: ds, _, i + 1, h => by
    obtain ⟨u, r, rfl, h1, h2⟩ := h.consI
    simpa using RepL.drop i h2
end

/-! ### the state -/
def CellOk (K : PySem.W.Frag) (m : CM) (Hf H : Hp) (l : Nat) (a : Addr) : CE → Prop
  | .live t ds => Hf a = none ∧ m.lk a = none ∧ D.leL l ds = true ∧ ∃ vs, LvN K H a t vs ∧ RepL K m Hf ds vs
  | .lock t ds => Hf a = none ∧ D.leL l ds = true ∧ ∃ vs, LkN m.lk a t vs ∧ RepL K m Hf ds vs
  | .dead => True
structure Rel (K : PySem.W.Frag) (m : CM) (Hf : Hp) (s : Sto) (H : Hp) : Prop where
  same : Same Hf H
  lk : Same m.lk H
  ldj : ∀ a o, m.lk a = some o → Hf a = none
  cell : ∀ l k c, s.get l k = some c → ∃ a, m.at_ l k = some a ∧ (∃ o, H a = some o) ∧ CellOk K m Hf H l a c
  dom : ∀ l k a, m.at_ l k = some a → ∃ c, s.get l k = some c
  inj : ∀ l k l' k' a, m.at_ l k = some a → m.at_ l' k' = some a → l = l' ∧ k = k'

/-- what stands in a value, to be read -/
def view (s : Sto) : D → Option (Tag × List D)
  | .node t ds => some (t, ds)
  | .cell l k => match s.get l k with
    | some (.live t ds) => some (t, ds)
    | some (.lock t ds) => some (t, ds)
    | _ => none
  | _ => none
theorem view_ok {K : PySem.W.Frag} {m : CM} {Hf H : Hp} {s : Sto} {d : D} {v : V} {t : Tag} {ds : List D} (R : Rel K m Hf s H) (r : Rep K m Hf d v) (h : view s d = some (t, ds)) : ∃ a vs, v = .ref a ∧ RdN K H a t vs ∧ RepL K m Hf ds vs := by
  cases d with
  | node t' ds' =>
    unfold view at h
    cases h
    unfold Rep at r
    obtain ⟨a, vs, h1, h2, h3⟩ := r
    exact ⟨a, vs, h1, h2.rd R.same, h3⟩
  | cell l k =>
    unfold view at h
    dsimp only at h
    unfold Rep at r
    obtain ⟨a, h1, h2⟩ := r
    cases e : s.get l k with
    | none => rw [e] at h; cases h
    | some c =>
      obtain ⟨a', q1, _, q2⟩ := R.cell l k c e
      rw [h1] at q1
      cases q1
      rw [e] at h
      cases c with
      | live t' ds' =>
        cases h
        obtain ⟨_, _, _, vs, q3, q4⟩ := q2
        exact ⟨a, vs, h2, q3.rd, q4⟩
      | lock t' ds' =>
        cases h
        obtain ⟨_, _, vs, q3, q4⟩ := q2
        exact ⟨a, vs, h2, q3.rd R.lk, q4⟩
      | dead => cases h
  | _ => unfold view at h; cases h

/-! ### results -/
inductive R (α : Type) where
  | ok (a : α) (s : Sto) | ex (c : Str) (fs : List (Str × D)) (s : Sto) | stuck
def R.bind {α β : Type} (r : R α) (k : α → Sto → R β) : R β := match r with
  | .ok a s => k a s
  | .ex c fs s => .ex c fs s
  | .stuck => .stuck
@[simp] theorem R.bind_ok {α β : Type} (a : α) (s : Sto) (k : α → Sto → R β) : (R.ok a s).bind k = k a s := rfl
@[simp] theorem R.bind_ex {α β : Type} (c : Str) (fs : List (Str × D)) (s : Sto) (k : α → Sto → R β) : (R.ex c fs s : R α).bind k = .ex c fs s := rfl
@[simp] theorem R.bind_stuck {α β : Type} (k : α → Sto → R β) : (R.stuck : R α).bind k = .stuck := rfl
/-- an exception as it lies: its class, its own dict -/
def ExR (K : PySem.W.Frag) (m : CM) (Hf : Hp) (c : Str) (fs : List (Str × D)) (cls : Value) (d : Option Addr) : Prop :=
  cls = .ref (He.ga K c) ∧ (fs ≠ [] → ∃ dd vs, d = some dd ∧ Hf dd = some (.xd ((fs.map (·.1)).zip vs)) ∧ RepL K m Hf (fs.map (·.2)) vs)
def Post {α β : Type} (K : PySem.W.Frag) (m : CM) (Hf : Hp) (rel : CM → Hp → α → β → Prop) (Q : β → Hp → Prop) (E : XK) : R α → Prop
  | .ok a s => ∀ m' Hf' H' b, MExt m m' → Same Hf Hf' → Rel K m' Hf' s H' → rel m' Hf' a b → Q b H'
  | .ex c fs s => ∀ m' Hf' H' cls d, MExt m m' → Same Hf Hf' → Rel K m' Hf' s H' → ExR K m' Hf' c fs cls d → E cls d H'
  | .stuck => False
section
variable {α β γ δ : Type} {K : PySem.W.Frag} {m m' : CM} {Hf Hf' : Hp} {rel : CM → Hp → α → β → Prop} {rel' : CM → Hp → γ → δ → Prop} {Q : β → Hp → Prop} {Q' : δ → Hp → Prop} {E : XK}
theorem Post.mono {r : R α} (em : MExt m m') (eh : Same Hf Hf') (h : Post K m Hf rel Q E r) : Post K m' Hf' rel Q E r := by
  cases r with
  | ok a s => exact fun m2 H2 H' b e1 e2 => h m2 H2 H' b (em.trans e1) (eh.trans e2)
  | ex c fs s => exact fun m2 H2 H' b d e1 e2 => h m2 H2 H' b d (em.trans e1) (eh.trans e2)
  | stuck => exact h
theorem Post.bind {r : R γ} {k : γ → Sto → R α} (h : Post K m Hf rel Q E (r.bind k))
    (hq : ∀ c s m' Hf' H' d, MExt m m' → Same Hf Hf' → Rel K m' Hf' s H' → rel' m' Hf' c d → Post K m' Hf' rel Q E (k c s) → Q' d H') : Post K m Hf rel' Q' E r := by
  cases r with
  | ok a s => exact fun m2 H2 H' b e1 e2 R r => hq a s m2 H2 H' b e1 e2 R r (Post.mono e1 e2 h)
  | ex c fs s => exact h
  | stuck => exact h
theorem Post.ok {a : α} {s : Sto} {H : Hp} {b : β} (h : Post K m Hf rel Q E (.ok a s)) (R : Rel K m Hf s H) (r : rel m Hf a b) : Q b H := h m Hf H b (MExt.refl _) (Same.refl _) R r
/-- .. where the heap has grown -/
theorem Post.ok' {a : α} {s : Sto} {H' : Hp} {b : β} (h : Post K m Hf rel Q E (.ok a s)) (em : MExt m m') (eh : Same Hf Hf') (R : Rel K m' Hf' s H') (r : rel m' Hf' a b) : Q b H' := h m' Hf' H' b em eh R r
end

/-! ### the slots -/
abbrev Env' := List (Option D)
structure EnvOk (K : PySem.W.Frag) (m : CM) (Hf : Hp) (ρ : Env') (σ : L2.St) : Prop where
  len : ρ.length = σ.length
  get : ∀ (i : Nat) (d : D), ρ[i]? = some (some d) → ∃ v, σ[i]? = some (some v) ∧ Rep K m Hf d v
theorem EnvOk.monoA {K : PySem.W.Frag} {m m' : CM} {Hf Hf' : Hp} {ρ : Env'} {σ : L2.St} (em : AExt m m') (eh : Same Hf Hf') (h : EnvOk K m Hf ρ σ) : EnvOk K m' Hf' ρ σ :=
  ⟨h.len, fun i d e => let ⟨v, a, b⟩ := h.get i d e; ⟨v, a, b.monoA em eh⟩⟩
theorem EnvOk.atEq {K : PySem.W.Frag} {m m' : CM} {Hf : Hp} {ρ : Env'} {σ : L2.St} (h : EnvOk K m Hf ρ σ) (e : m.at_ = m'.at_ := by rfl) : EnvOk K m' Hf ρ σ := h.monoA (fun l k a z => by rw [← e]; exact z) (Same.refl _)
theorem EnvOk.mono {K : PySem.W.Frag} {m m' : CM} {Hf Hf' : Hp} {ρ : Env'} {σ : L2.St} (em : MExt m m') (eh : Same Hf Hf') (h : EnvOk K m Hf ρ σ) : EnvOk K m' Hf' ρ σ :=
  ⟨h.len, fun i d e => let ⟨v, a, b⟩ := h.get i d e; ⟨v, a, b.mono em eh⟩⟩
theorem EnvOk.set {K : PySem.W.Frag} {m : CM} {Hf : Hp} {ρ : Env'} {σ : L2.St} {i : Nat} {d : D} {v : V} (h : EnvOk K m Hf ρ σ) (r : Rep K m Hf d v) : EnvOk K m Hf (ρ.set i (some d)) (σ.set i (some v)) := by
  refine ⟨by simpa using h.len, fun j e he => ?_⟩
  by_cases hj : i = j
  · subst hj
    by_cases hl : i < ρ.length
    · rw [List.getElem?_set_self hl] at he
      cases he
      exact ⟨v, by rw [List.getElem?_set_self (by rw [← h.len]; exact hl)], r⟩
    · rw [List.getElem?_eq_none (by simpa using hl)] at he
      cases he
  · rw [List.getElem?_set_ne hj] at he ⊢
    exact h.get j e he
theorem EnvOk.unset {K : PySem.W.Frag} {m : CM} {Hf : Hp} {ρ : Env'} {σ : L2.St} {i : Nat} {o : Option V} (h : EnvOk K m Hf ρ σ) : EnvOk K m Hf (ρ.set i none) (σ.set i o) := by
  refine ⟨by simpa using h.len, fun j e he => ?_⟩
  by_cases hj : i = j
  · subst hj
    by_cases hl : i < ρ.length
    · rw [List.getElem?_set_self hl] at he
      cases he
    · rw [List.getElem?_eq_none (by simpa using hl)] at he
      cases he
  · rw [List.getElem?_set_ne hj] at he ⊢
    exact h.get j e he

/-! ### the weakest readings -/
section
variable (X : Cx)
def tWE (e : Expr) : TE := fun σ H Q => ∀ pins s, Inv X pins σ H s → wpAny (model X.prog X.w) X.A (eval e X.env) (EP X pins σ Q) X.xe s
def tWT (e : Expr) : TT := fun σ H Q => ∀ pins s, Inv X pins σ H s → wpAny (model X.prog X.w) X.A (isTrue e X.env (eval e X.env)) (TP X pins σ Q) X.xe s
def tWW (e : Expr) : TT := fun σ H Q => ∀ whole pins s, Inv X pins σ H s → wpAny (model X.prog X.w) X.A (isTrue e X.env whole) (TP X pins σ Q) X.xe s
def tWA (es : List Expr) : TA := fun σ H Q => ∀ pos pins s, Inv X pins σ H s → wpAny (model X.prog X.w) X.A (spliced (backTo pos (starEach es X.env))) (AP X pins σ Q) X.xe s
def tWS (st : Stmt) : TS := fun D σ H => ∀ pins s, Inv X pins σ H s → wpAny (model X.prog X.w) X.A (exec st X.env) (SP X pins D) X.xe s
def tWSs (st : List Stmt) : TS := fun D σ H => ∀ pins s, Inv X pins σ H s → wpAny (model X.prog X.w) X.A (execs st X.env) (SP X pins D) X.xe s
end
section
variable {X : Cx}
theorem pe_W {e : Expr} : PE X e (tWE X e) := ⟨fun pins s _ _ _ I h => h pins s I⟩
theorem pt_W {e : Expr} : PT X e (tWT X e) := ⟨fun pins s _ _ _ I h => h pins s I⟩
theorem pw_W {e : Expr} : PW X e (tWW X e) := ⟨fun w pins s _ _ _ I h => h w pins s I⟩
theorem pa_W {es : List Expr} : PA X es (tWA X es) := ⟨fun pos pins s _ _ _ I h => h pos pins s I⟩
theorem ps_W {st : Stmt} : PS X st (tWS X st) := ⟨fun pins s _ _ _ I h => h pins s I⟩
theorem pss_W {st : List Stmt} : PSs X st (tWSs X st) := ⟨fun pins s _ _ _ I h => h pins s I⟩
theorem we_of {e : Expr} {t : TE} {σ : L2.St} {H : Hp} {Q : VK} (p : PE X e t) (h : t σ H Q) : tWE X e σ H Q := fun pins s I => p.run pins s σ H Q I h
theorem wt_of {e : Expr} {t : TT} {σ : L2.St} {H : Hp} {Q : Bool → Hp → Prop} (p : PT X e t) (h : t σ H Q) : tWT X e σ H Q := fun pins s I => p.run pins s σ H Q I h
theorem ww_of {e : Expr} {t : TT} {σ : L2.St} {H : Hp} {Q : Bool → Hp → Prop} (p : PW X e t) (h : t σ H Q) : tWW X e σ H Q := fun w pins s I => p.run w pins s σ H Q I h
theorem wa_of {es : List Expr} {t : TA} {σ : L2.St} {H : Hp} {Q : List V → Hp → Prop} (p : PA X es t) (h : t σ H Q) : tWA X es σ H Q := fun pos pins s I => p.run pos pins s σ H Q I h
theorem ws_of {st : Stmt} {t : TS} {σ : L2.St} {H : Hp} {D : Ends} (p : PS X st t) (h : t D σ H) : tWS X st D σ H := fun pins s I => p.run pins s σ H D I h
theorem wss_of {st : List Stmt} {t : TS} {σ : L2.St} {H : Hp} {D : Ends} (p : PSs X st t) (h : t D σ H) : tWSs X st D σ H := fun pins s I => p.run pins s σ H D I h
end

/-! ### the judgements -/
abbrev ME := Env' → Sto → R D
abbrev MT := Env' → Sto → R Bool
abbrev MA := Env' → Sto → R (List D)
abbrev relB : CM → Hp → Bool → Bool → Prop := fun _ _ a b => a = b
abbrev EW (W : WX) (σ : L2.St) : XK := fun cls d H => W cls d σ H
structure JE (X : Cx) (e : Expr) (f : ME) : Prop where
  run : ∀ (W : WX), Takes X W → ∀ (m : CM) (Hf : Hp) (ρ : Env') (σ : L2.St) (s : Sto) (H : Hp) (Q : VK), EnvOk X.K m Hf ρ σ → Rel X.K m Hf s H → Post X.K m Hf (Rep X.K) Q (EW W σ) (f ρ s) → tWE X e σ H Q
structure JT (X : Cx) (e : Expr) (f : MT) : Prop where
  run : ∀ (W : WX), Takes X W → ∀ (m : CM) (Hf : Hp) (ρ : Env') (σ : L2.St) (s : Sto) (H : Hp) (Q : Bool → Hp → Prop), EnvOk X.K m Hf ρ σ → Rel X.K m Hf s H → Post X.K m Hf relB Q (EW W σ) (f ρ s) → tWT X e σ H Q
structure JW (X : Cx) (e : Expr) (f : MT) : Prop where
  run : ∀ (W : WX), Takes X W → ∀ (m : CM) (Hf : Hp) (ρ : Env') (σ : L2.St) (s : Sto) (H : Hp) (Q : Bool → Hp → Prop), EnvOk X.K m Hf ρ σ → Rel X.K m Hf s H → Post X.K m Hf relB Q (EW W σ) (f ρ s) → tWW X e σ H Q
structure JA (X : Cx) (es : List Expr) (f : MA) : Prop where
  run : ∀ (W : WX), Takes X W → ∀ (m : CM) (Hf : Hp) (ρ : Env') (σ : L2.St) (s : Sto) (H : Hp) (Q : List V → Hp → Prop), EnvOk X.K m Hf ρ σ → Rel X.K m Hf s H → Post X.K m Hf (RepL X.K) Q (EW W σ) (f ρ s) → tWA X es σ H Q
inductive SR where
  | nx (ρ : Env') (s : Sto) | rt (d : D) (s : Sto) | bk (ρ : Env') (s : Sto) | ct (ρ : Env') (s : Sto) | ex (ρ : Env') (c : Str) (fs : List (Str × D)) (s : Sto) | stuck
abbrev MS := Env' → Sto → SR
def PostS (K : PySem.W.Frag) (m : CM) (Hf : Hp) (D : Ends) (W : WX) : SR → Prop
  | .nx ρ s => ∀ m' Hf' H' σ', MExt m m' → Same Hf Hf' → Rel K m' Hf' s H' → EnvOk K m' Hf' ρ σ' → D.nx σ' H'
  | .bk ρ s => ∀ m' Hf' H' σ', MExt m m' → Same Hf Hf' → Rel K m' Hf' s H' → EnvOk K m' Hf' ρ σ' → D.bk σ' H'
  | .ct ρ s => ∀ m' Hf' H' σ', MExt m m' → Same Hf Hf' → Rel K m' Hf' s H' → EnvOk K m' Hf' ρ σ' → D.ct σ' H'
  | .rt d s => ∀ m' Hf' H' v, MExt m m' → Same Hf Hf' → Rel K m' Hf' s H' → Rep K m' Hf' d v → D.rt v H'
  | .ex ρ c fs s => ∀ m' Hf' H' σ' cls d, MExt m m' → Same Hf Hf' → Rel K m' Hf' s H' → EnvOk K m' Hf' ρ σ' → ExR K m' Hf' c fs cls d → W cls d σ' H'
  | .stuck => False
theorem PostS.mono {K : PySem.W.Frag} {m m' : CM} {Hf Hf' : Hp} {D : Ends} {W : WX} {r : SR} (em : MExt m m') (eh : Same Hf Hf') (h : PostS K m Hf D W r) : PostS K m' Hf' D W r := by
  cases r with
  | nx ρ s => exact fun m2 H2 H' b e1 e2 => h m2 H2 H' b (em.trans e1) (eh.trans e2)
  | bk ρ s => exact fun m2 H2 H' b e1 e2 => h m2 H2 H' b (em.trans e1) (eh.trans e2)
  | ct ρ s => exact fun m2 H2 H' b e1 e2 => h m2 H2 H' b (em.trans e1) (eh.trans e2)
  | rt ρ s => exact fun m2 H2 H' b e1 e2 => h m2 H2 H' b (em.trans e1) (eh.trans e2)
  | ex ρ c fs s => exact fun m2 H2 H' b c d e1 e2 => h m2 H2 H' b c d (em.trans e1) (eh.trans e2)
  | stuck => exact h
structure JS (X : Cx) (st : Stmt) (f : MS) : Prop where
  run : ∀ (W : WX), Takes X W → ∀ (m : CM) (Hf : Hp) (ρ : Env') (σ : L2.St) (s : Sto) (H : Hp) (D : Ends), EnvOk X.K m Hf ρ σ → Rel X.K m Hf s H → PostS X.K m Hf D W (f ρ s) → tWS X st D σ H
structure JSs (X : Cx) (st : List Stmt) (f : MS) : Prop where
  run : ∀ (W : WX), Takes X W → ∀ (m : CM) (Hf : Hp) (ρ : Env') (σ : L2.St) (s : Sto) (H : Hp) (D : Ends), EnvOk X.K m Hf ρ σ → Rel X.K m Hf s H → PostS X.K m Hf D W (f ρ s) → tWSs X st D σ H
end Bw

namespace Bw
open PySem PySem.Spec PyProof.Rows L2
section
variable {K : PySem.W.Frag} {m m' : CM} {Hf Hf' H H' : Hp} {s : Sto} {p : Addr} {o : HO}
theorem LvN.at_ {a : Addr} {t : Tag} {vs : List V} (e : H' a = H a) (h : LvN K H a t vs) : LvN K H' a t vs := by
  cases t with
  | lst => exact e.trans h
  | sq => exact h
  | tup => exact h
  | dK ks => exact ⟨h.1, e.trans h.2⟩
  | dT ks => exact ⟨h.1, e.trans h.2⟩
  | ins c fs => obtain ⟨l, dx, h⟩ := h; exact ⟨l, dx, e.trans h⟩
theorem LkN.sub {a : Addr} {t : Tag} {vs : List V} (e : Same H H') (h : LkN H a t vs) : LkN H' a t vs := by
  cases t with
  | lst => exact e _ _ h
  | sq => exact h
  | tup => exact h
  | dK ks => obtain ⟨l, o, h⟩ := h; exact ⟨l, o, e _ _ h⟩
  | dT ks => obtain ⟨l, o, h⟩ := h; exact ⟨l, o, e _ _ h⟩
  | ins c fs => exact h
/-- the heap grows away from the cells -/
theorem Rel.grow (R : Rel K m Hf s H) (em : MExt m m') (hm : m'.at_ = m.at_) (eh : Same Hf Hf') (e1 : Same Hf' H') (e2 : Same m'.lk H') (e3 : ∀ a o, m.lk a = some o → Hf a = none → Hf' a = none)
    (ha : ∀ l k a, m.at_ l k = some a → H' a = H a ∧ (Hf a = none → Hf' a = none)) : Rel K m' Hf' s H' where
  same := e1
  lk := e2
  ldj := fun a o e => e3 a o (by rw [← em.lk]; exact e) (R.ldj a o (by rw [← em.lk]; exact e))
  cell := fun l k c e => by
    obtain ⟨a, q1, ⟨o, q2⟩, q3⟩ := R.cell l k c e
    obtain ⟨h1, h2⟩ := ha l k a q1
    refine ⟨a, by rw [hm]; exact q1, ⟨o, h1.trans q2⟩, ?_⟩
    cases c with
    | live t ds =>
      obtain ⟨z1, z2, z3, vs, z4, z5⟩ := q3
      exact ⟨h2 z1, by rw [em.lk]; exact z2, z3, vs, z4.at_ h1, z5.mono em eh⟩
    | lock t ds =>
      obtain ⟨z1, z3, vs, z4, z5⟩ := q3
      exact ⟨h2 z1, z3, vs, by rw [em.lk]; exact z4, z5.mono em eh⟩
    | dead => trivial
  dom := fun l k a e => R.dom l k a (by rw [← hm]; exact e)
  inj := fun l k l' k' a e1 e2 => R.inj l k l' k' a (by rw [← hm]; exact e1) (by rw [← hm]; exact e2)
theorem Rel.frees (R : Rel K m Hf s H) (hp : H p = none) : Hf p = none ∧ m.lk p = none ∧ ∀ l k a, m.at_ l k = some a → a ≠ p := by
  refine ⟨R.same.free hp, R.lk.free hp, fun l k a e z => ?_⟩
  obtain ⟨c, hc⟩ := R.dom l k a e
  obtain ⟨a', q1, ⟨o, q2⟩, _⟩ := R.cell l k c hc
  rw [e] at q1
  cases q1
  rw [z, hp] at q2
  cases q2
theorem Same.upd {H : Hp} {p : Addr} {o : HO} (h : H p = none) : Same H (upd H p o) := fun b u e => by
  rw [upd_ne (ne_of_none e h)]
  exact e
theorem Same.upd2 {H H' : Hp} {p : Addr} {o : HO} (h : Same H H') : Same (L2.upd H p o) (L2.upd H' p o) := fun b u e => by
  by_cases hb : b = p
  · subst hb; rw [upd_same] at e ⊢; exact e
  · rw [upd_ne hb] at e ⊢; exact h _ _ e
theorem Same.updR {H H' : Hp} {p : Addr} {o : HO} (h : Same H H') (hp : H p = none) : Same H (L2.upd H' p o) := fun b u e => by
  rw [upd_ne (ne_of_none e hp)]
  exact h _ _ e
/-- a new frozen object -/
theorem Rel.new (R : Rel K m Hf s H) (hp : H p = none) : Same Hf (upd Hf p o) ∧ Rel K m (upd Hf p o) s (upd H p o) := by
  obtain ⟨h1, h2, h3⟩ := R.frees hp
  refine ⟨Same.upd h1, R.grow (MExt.refl _) rfl (Same.upd h1) (Same.upd2 R.same) (Same.updR R.lk h2) (fun a o e1 e2 => by rw [upd_ne (ne_of_none e1 h2)]; exact e2) fun l k a e => ?_⟩
  rw [upd_ne (h3 l k a e), upd_ne (h3 l k a e)]
  exact ⟨rfl, id⟩
/-- a new object that nothing speaks of -/
theorem Rel.junk (R : Rel K m Hf s H) (hp : H p = none) : Rel K m Hf s (upd H p o) := by
  obtain ⟨h1, h2, h3⟩ := R.frees hp
  refine R.grow (MExt.refl _) rfl (Same.refl _) (Same.updR R.same h1) (Same.updR R.lk h2) (fun _ _ _ e => e) fun l k a e => ?_
  rw [upd_ne (h3 l k a e)]
  exact ⟨rfl, id⟩
end

section
variable {K : PySem.W.Frag} {m : CM} {Hf H : Hp} {s : Sto} {E : XK} {Q : VK} {ds : List D} {vs : List V}
theorem Rep.ref_lst {p : Addr} (h : RepL K m Hf ds vs) (e : Hf p = some (.lst vs)) : Rep K m Hf (.node .lst ds) (.ref p) := by
  unfold Rep
  exact ⟨p, vs, rfl, e, h⟩
theorem Rep.ref_tup {p : Addr} (h : RepL K m Hf ds vs) (e : Hf p = some (.tup vs)) : Rep K m Hf (.node .tup ds) (.ref p) := by
  unfold Rep
  exact ⟨p, vs, rfl, SqT.of e, h⟩
/-- a new list comes back -/
theorem Post.newL (R : Rel K m Hf s H) (h : RepL K m Hf ds vs) (q : Post K m Hf (Rep K) Q E (.ok (.node .lst ds) s)) : ∀ p, H p = none → Q (.ref p) (upd H p (.lst vs)) := fun p hp => by
  obtain ⟨e, R'⟩ := R.new (o := .lst vs) hp
  exact q m _ _ _ (MExt.refl _) e R' (Rep.ref_lst (h.mono (MExt.refl _) e) upd_same)
theorem Post.newT (R : Rel K m Hf s H) (h : RepL K m Hf ds vs) (q : Post K m Hf (Rep K) Q E (.ok (.node .tup ds) s)) : ∀ p, H p = none → Q (.ref p) (upd H p (.tup vs)) := fun p hp => by
  obtain ⟨e, R'⟩ := R.new (o := .tup vs) hp
  exact q m _ _ _ (MExt.refl _) e R' (Rep.ref_tup (h.mono (MExt.refl _) e) upd_same)
end

/-! ### names, constants -/
section
variable {X : Cx} {pos : Pos}
def mVar (i : Nat) : ME := fun ρ s => match ρ[i]? with
  | some (some d) => .ok d s
  | _ => .stuck
def mC (d : D) : ME := fun _ s => .ok d s
theorem je_var (i : Nat) {x : Str} (hN : X.N[i]? = some x := by rfl) (hv : Vis X.env.scope x := by first | exact Or.inl rfl | exact Or.inr (Or.inl rfl) | exact Or.inr (Or.inr rfl)) (hd : (x == ("__debug__" : Str)) = false := by decide)
    (hcd : (x == ("__classdict__" : Str)) = false := by decide) : JE X (.Name x pos) (mVar i) := ⟨fun W tk m Hf ρ σ s H Q he R h => by
  refine we_of (pe_var hN hv hd hcd) ?_
  unfold mVar at h
  cases e : ρ[i]? with
  | none => rw [e] at h; exact h.elim
  | some o =>
    rw [e] at h
    cases o with
    | none => exact h.elim
    | some d =>
      obtain ⟨v, h1, h2⟩ := he.get i d e
      exact ⟨v, h1, h.ok R h2⟩⟩
theorem je_c {e : Expr} {d : D} {v : V} (p : PE X e (tC v)) (r : ∀ m Hf, Rep X.K m Hf d v) : JE X e (mC d) := ⟨fun W tk m Hf ρ σ s H Q he R h => we_of p (h.ok R (r _ _))⟩
theorem je_int {i : Int} {j : Nat} : JE X (.Constant (.int i) j pos) (mC (.int i)) := je_c pe_int fun _ _ => rfl
theorem je_str {x : Str} {j : Nat} : JE X (.Constant (.str x) j pos) (mC (.str x)) := je_c pe_str fun _ _ => rfl
theorem je_bl {b : Bool} {j : Nat} : JE X (.Constant (.bool b) j pos) (mC (.bl b)) := je_c pe_bl fun _ _ => rfl
theorem je_non {j : Nat} : JE X (.Constant .none j pos) (mC .non) := je_c pe_non fun _ _ => rfl
theorem je_gint {x : Str} {i : Int} (hg : Gl X x) (hm : ∃ t, X.mg x = some (.int i t)) (hd : (x == ("__debug__" : Str)) = false := by decide) : JE X (.Name x pos) (mC (.int i)) := by
  obtain ⟨t, hm⟩ := hm
  exact je_c (pe_glob (v := .int i) hg hm ⟨t, rfl⟩ hd) fun _ _ => rfl
theorem je_gstr {x z : Str} (hg : Gl X x) (hm : ∃ t, X.mg x = some (.str z t)) (hd : (x == ("__debug__" : Str)) = false := by decide) : JE X (.Name x pos) (mC (.str z)) := by
  obtain ⟨t, hm⟩ := hm
  exact je_c (pe_glob (v := .str z) hg hm ⟨t, rfl⟩ hd) fun _ _ => rfl
theorem je_glo {x : Str} (hg : Gl X x) (hm : X.mg x = some (.ref (He.ga X.K x))) (hd : (x == ("__debug__" : Str)) = false := by decide) : JE X (.Name x pos) (mC (.glo x)) :=
  je_c (pe_glob (v := .ref (He.ga X.K x)) hg hm rfl hd) fun _ _ => by unfold Rep; rfl
theorem je_ty {x : Str} {n : String} (hg : Gl X x) (hm : X.mg x = none) (hv : bootBuiltins x = some (.type n)) (hn : x ≠ "__name__" := by decide) (hd : (x == ("__debug__" : Str)) = false := by decide) : JE X (.Name x pos) (mC (.ty n)) :=
  je_c (pe_bltn (v := .ty n) hg hm hv rfl hn hd) fun _ _ => by unfold Rep; rfl
end

/-! ### operators -/
def O2 (K : PySem.W.Frag) (r : R2) (g : D → D → Sto → R D) : Prop :=
  ∀ {m : CM} {Hf : Hp} {s : Sto} {H : Hp} {x y : D} {v u : V} {Q : VK} {E : XK}, Rel K m Hf s H → Rep K m Hf x v → Rep K m Hf y u → Post K m Hf (Rep K) Q E (g x y s) → r v u H Q
def O1 (K : PySem.W.Frag) (r : V → Hp → VK → Prop) (g : D → Sto → R D) : Prop :=
  ∀ {m : CM} {Hf : Hp} {s : Sto} {H : Hp} {x : D} {v : V} {Q : VK} {E : XK}, Rel K m Hf s H → Rep K m Hf x v → Post K m Hf (Rep K) Q E (g x s) → r v H Q
def OL (K : PySem.W.Frag) (r : List V → Hp → VK → Prop) (g : List D → Sto → R D) : Prop :=
  ∀ {m : CM} {Hf : Hp} {s : Sto} {H : Hp} {xs : List D} {vs : List V} {Q : VK} {E : XK}, Rel K m Hf s H → RepL K m Hf xs vs → Post K m Hf (Rep K) Q E (g xs s) → r vs H Q
def OM (K : PySem.W.Frag) (r : V → List V → Hp → VK → Prop) (g : D → List D → Sto → R D) : Prop :=
  ∀ {m : CM} {Hf : Hp} {s : Sto} {H : Hp} {x : D} {v : V} {xs : List D} {vs : List V} {Q : VK} {E : XK}, Rel K m Hf s H → Rep K m Hf x v → RepL K m Hf xs vs → Post K m Hf (Rep K) Q E (g x xs s) → r v vs H Q
def mBin (g : D → D → Sto → R D) (f1 f2 : ME) : ME := fun ρ s => (f1 ρ s).bind fun x s1 => (f2 ρ s1).bind fun y s2 => g x y s2
def mUn (g : D → Sto → R D) (f1 : ME) : ME := fun ρ s => (f1 ρ s).bind fun x s1 => g x s1
section
variable {X : Cx} {pos : Pos} {a b c : Expr} {fa fb fc : ME}
theorem JE.two (ha : JE X a fa) (hb : JE X b fb) {W : WX} (tk : Takes X W) {m : CM} {Hf : Hp} {ρ : Env'} {σ : L2.St} {s : Sto} {H : Hp} {α β : Type} {rel : CM → Hp → α → β → Prop} {Q : β → Hp → Prop} {k : D → D → Sto → R α} {R' : V → V → Hp → Prop} (he : EnvOk X.K m Hf ρ σ) (R : Rel X.K m Hf s H)
    (h : Post X.K m Hf rel Q (EW W σ) ((fa ρ s).bind fun x s1 => (fb ρ s1).bind fun y s2 => k x y s2))
    (hk : ∀ m' Hf' s' H' x y v u, MExt m m' → Same Hf Hf' → Rel X.K m' Hf' s' H' → Rep X.K m' Hf' x v → Rep X.K m' Hf' y u → Post X.K m' Hf' rel Q (EW W σ) (k x y s') → R' v u H') :
    tWE X a σ H fun v H1 => tWE X b σ H1 fun u H2 => R' v u H2 := by
  refine ha.run W tk m Hf ρ σ s H _ he R (Post.bind h fun x s1 m1 Hf1 H1 v e1 e2 R1 r1 h1 => ?_)
  refine hb.run W tk m1 Hf1 ρ σ s1 H1 _ (he.mono e1 e2) R1 (Post.bind h1 fun y s2 m2 Hf2 H2 u e3 e4 R2 r2 h2 => ?_)
  exact hk m2 Hf2 s2 H2 x y v u (e1.trans e3) (e2.trans e4) R2 (r1.mono e3 e4) r2 h2
theorem je_bin {op : Operator} {r : R2} {g : D → D → Sto → R D} (ho : OpR X (binaryOp op) r) (hs : O2 X.K r g) (ha : JE X a fa) (hb : JE X b fb) : JE X (.BinOp a op b pos) (mBin g fa fb) := ⟨fun W tk m Hf ρ σ s H Q he R h =>
  we_of (pe_op ho pe_W pe_W) (ha.two hb tk he R h fun _ _ _ _ _ _ _ _ _ _ R2 r1 r2 h2 => hs R2 r1 r2 h2)⟩
theorem je_cmp {op : CmpOp} {r : R2} {g : D → D → Sto → R D} (ho : OpR X (compareOp op) r) (hm : behindInMarks op b = false) (hs : O2 X.K r g) (ha : JE X a fa) (hb : JE X b fb) : JE X (.Compare a [op] [b] pos) (mBin g fa fb) := ⟨fun W tk m Hf ρ σ s H Q he R h =>
  we_of (pe_cmpR ho pe_W pe_W hm) (ha.two hb tk he R h fun _ _ _ _ _ _ _ _ _ _ R2 r1 r2 h2 => hs R2 r1 r2 h2)⟩
theorem je_un {op : UnaryOp} {r : V → Hp → VK → Prop} {g : D → Sto → R D} (ho : UnR X (unaryOp op) r) (hs : O1 X.K r g) (ha : JE X a fa) : JE X (.UnaryOp op a pos) (mUn g fa) := ⟨fun W tk m Hf ρ σ s H Q he R h =>
  we_of (pe_un ho pe_W) (ha.run W tk m Hf ρ σ s H _ he R (Post.bind h fun x s1 m1 Hf1 H1 v e1 e2 R1 r1 h1 => hs R1 r1 h1))⟩
/-- a < b < c -/
def mChain (g g' : D → D → Sto → R D) (f1 f2 f3 : ME) : ME := fun ρ s => (f1 ρ s).bind fun x s1 => (f2 ρ s1).bind fun y s2 => (g x y s2).bind fun z s3 => match z with
  | .bl true => (f3 ρ s3).bind fun w s4 => g' y w s4
  | .bl false => .ok (.bl false) s3
  | _ => .stuck
theorem je_chain {op op' : CmpOp} {r r' : R2} {g g' : D → D → Sto → R D} (ho : OpR X (compareOp op) r) (ho' : OpR X (compareOp op') r') (hs : O2 X.K r g) (hs' : O2 X.K r' g') (ha : JE X a fa) (hb : JE X b fb) (hc : JE X c fc) (hm : lastMarks [op, op'] [b, c] = false := by rfl) : JE X (.Compare a [op, op'] [b, c] pos) (mChain g g' fa fb fc) := ⟨fun W tk m Hf ρ σ s H Q he R h => by
  refine we_of (pe_chain ho ho' pe_W pe_W pe_W hm) (ha.two hb tk he R h fun m2 Hf2 s2 H2 x y v u e1 e2 R2 r1 r2 h2 => ?_)
  refine hs (E := EW W σ) R2 r1 r2 (Post.bind h2 fun z s3 m3 Hf3 H3 w e3 e4 R3 r3 h3 => ?_)
  cases z with
  | bl k =>
    unfold Rep at r3
    refine ⟨k, r3, ?_⟩
    cases k with
    | true =>
      rw [if_pos rfl]
      refine hc.run W tk m3 Hf3 ρ σ s3 H3 _ (he.mono (e1.trans e3) (e2.trans e4)) R3 (Post.bind h3 fun w4 s4 m4 Hf4 H4 v4 e5 e6 R4 r4 h4 => ?_)
      exact hs' R4 (r2.mono (e3.trans e5) (e4.trans e6)) r4 h4
    | false =>
      rw [if_neg Bool.false_ne_true]
      exact h3.ok R3 (by unfold Rep; rfl)
  | _ => exact h3.elim⟩
end
end Bw

namespace Bw
open PySem PySem.Spec PyProof.Rows L2

/-! ### the store's laws -/
namespace Sto
variable {s : Sto} {l k l' k' : Nat} {c c' : CE}
theorem get_lvl (h : s.get l k = some c) : l ≤ s.lvl := by
  unfold get at h
  split at h
  · show l ≤ s.out.length
    omega
  · cases e : s.out[l]? with
    | none => rw [e] at h; cases h
    | some a =>
      have := (List.getElem?_eq_some_iff.mp e).1
      show l ≤ s.out.length
      omega
@[simp] theorem lvl_set : (s.set l k c).out.length = s.out.length := by
  unfold set
  split
  · rfl
  · simp
theorem get_set_same (h : s.get l k = some c) : (s.set l k c').get l k = some c' := by
  unfold get at h
  unfold set get
  by_cases e : l = s.out.length
  · rw [if_pos e] at h ⊢
    have := (List.getElem?_eq_some_iff.mp h).1
    simp [e, this]
  · rw [if_neg e] at h ⊢
    cases q : s.out[l]? with
    | none => rw [q] at h; cases h
    | some a =>
      rw [q] at h
      have hk := (List.getElem?_eq_some_iff.mp (show a[k]? = some c from h)).1
      have hl := (List.getElem?_eq_some_iff.mp q).1
      simp [e, q, hk]
theorem get_set_ne (h : ¬ (l = l' ∧ k = k')) : (s.set l k c').get l' k' = s.get l' k' := by
  unfold set get
  by_cases e : l = s.out.length
  · simp only [if_pos e]
    by_cases e2 : l' = s.out.length
    · simp only [if_pos e2]
      rw [List.getElem?_set_ne]
      intro z; exact h ⟨e.trans e2.symm, z⟩
    · simp only [if_neg e2]
  · simp only [if_neg e]
    simp only [List.length_modify]
    by_cases e2 : l' = s.out.length
    · simp only [if_pos e2]
    · simp only [if_neg e2]
      rw [List.getElem?_modify]
      by_cases e3 : l = l'
      · subst e3
        have hk : k ≠ k' := fun z => h ⟨rfl, z⟩
        simp only [if_pos]
        cases q : s.out[l]? with
        | none => rfl
        | some a => simp [List.getElem?_set_ne hk]
      · simp [e3]
theorem set_set : (s.set l k c).set l k c' = s.set l k c' := by
  unfold set
  by_cases e : l = s.out.length
  · simp [e]
  · simp only [if_neg e, List.length_modify]
    congr 1
    apply List.ext_getElem?
    intro i
    rw [List.getElem?_modify, List.getElem?_modify, List.getElem?_modify]
    by_cases e3 : l = i
    · subst e3
      cases s.out[l]? <;> simp
    · simp [e3]
theorem set_same (h : s.get l k = some c) : s.set l k c = s := by
  unfold get at h
  unfold set
  by_cases e : l = s.out.length
  · rw [if_pos e] at h ⊢
    obtain ⟨hk, e2⟩ := List.getElem?_eq_some_iff.mp h
    have : s.loc.set k c = s.loc := by rw [← e2]; simp
    rw [this]
  · rw [if_neg e] at h ⊢
    obtain ⟨o, lc⟩ := s
    congr 1
    apply List.ext_getElem?
    intro i
    rw [List.getElem?_modify]
    by_cases e3 : l = i
    · subst e3
      simp only [if_pos]
      dsimp only at h
      cases q : o[l]? with
      | none => rfl
      | some a =>
        rw [q] at h
        obtain ⟨hk, e2⟩ := List.getElem?_eq_some_iff.mp (show a[k]? = some c from h)
        have : a.set k c = a := by rw [← e2]; simp
        simp [this]
    · simp [e3]
end Sto

section
variable {K : PySem.W.Frag} {m : CM} {Hf H : Hp} {s : Sto} {l k : Nat} {a : Addr}
/-- a live cell is written -/
theorem Rel.write {t t' : Tag} {ds ds' : List D} {o : HO} {vs' : List V} (R : Rel K m Hf s H) (hg : s.get l k = some (.live t ds)) (ha : m.at_ l k = some a) (new : LvN K (upd H a o) a t' vs') (hr : RepL K m Hf ds' vs') (hl : D.leL l ds' = true) :
    Rel K m Hf (s.set l k (.live t' ds')) (upd H a o) := by
  obtain ⟨a', q1, ⟨u, q2⟩, z1, z2, z3, vs, z4, z5⟩ := R.cell l k _ hg
  rw [ha] at q1
  cases q1
  have hne : ∀ l' k' b, m.at_ l' k' = some b → ¬ (l = l' ∧ k = k') → b ≠ a := fun l' k' b e h z => by
    subst z
    exact h (R.inj l k l' k' b ha e)
  refine ⟨fun b u e => ?_, fun b u e => ?_, R.ldj, fun l' k' c e => ?_, fun l' k' b e => ?_, R.inj⟩
  · rw [upd_ne (ne_of_none e z1)]; exact R.same b u e
  · rw [upd_ne (ne_of_none e z2)]; exact R.lk b u e
  · by_cases h : l = l' ∧ k = k'
    · obtain ⟨rfl, rfl⟩ := h
      rw [Sto.get_set_same hg] at e
      cases e
      exact ⟨a, ha, ⟨o, upd_same⟩, z1, z2, hl, vs', new, hr⟩
    · rw [Sto.get_set_ne h] at e
      obtain ⟨b, w1, ⟨u', w2⟩, w3⟩ := R.cell l' k' c e
      have nb := hne l' k' b w1 h
      refine ⟨b, w1, ⟨u', by rw [upd_ne nb]; exact w2⟩, ?_⟩
      cases c with
      | live t2 ds2 =>
        obtain ⟨y1, y2, y3, vs2, y4, y5⟩ := w3
        exact ⟨y1, y2, y3, vs2, y4.at_ (upd_ne nb), y5⟩
      | lock t2 ds2 => exact w3
      | dead => trivial
  · obtain ⟨c, hc⟩ := R.dom l' k' b e
    by_cases h : l = l' ∧ k = k'
    · obtain ⟨rfl, rfl⟩ := h
      exact ⟨_, Sto.get_set_same hg⟩
    · exact ⟨c, by rw [Sto.get_set_ne h]; exact hc⟩
/-- a live cell, as it lies -/
theorem Rel.live {t : Tag} {ds : List D} {v : V} (R : Rel K m Hf s H) (r : Rep K m Hf (.cell l k) v) (hg : s.get l k = some (.live t ds)) : ∃ a vs, v = .ref a ∧ m.at_ l k = some a ∧ LvN K H a t vs ∧ RepL K m Hf ds vs ∧ D.leL l ds = true := by
  unfold Rep at r
  obtain ⟨a, h1, h2⟩ := r
  obtain ⟨a', q1, _, _, _, z3, vs, z4, z5⟩ := R.cell l k _ hg
  rw [h1] at q1
  cases q1
  exact ⟨a, vs, h2, h1, z4, z5, z3⟩
end

/-! ### tests -/
def mTest (f : ME) : MT := fun ρ s => (f ρ s).bind fun d s1 => match d with
  | .bl b => .ok b s1
  | _ => .stuck
def mAnd (f g : MT) : MT := fun ρ s => (f ρ s).bind fun b s1 => if b then g ρ s1 else .ok false s1
def mOr (f g : MT) : MT := fun ρ s => (f ρ s).bind fun b s1 => if b then .ok true s1 else g ρ s1
def mNot (f : MT) : MT := fun ρ s => (f ρ s).bind fun b s1 => .ok (!b) s1
def mAndV (f g : ME) : ME := fun ρ s => (f ρ s).bind fun d s1 => match d with
  | .bl true => g ρ s1
  | .bl false => .ok (.bl false) s1
  | _ => .stuck
def mOrV (f g : ME) : ME := fun ρ s => (f ρ s).bind fun d s1 => match d with
  | .bl true => .ok (.bl true) s1
  | .bl false => g ρ s1
  | _ => .stuck
def mNotV (f : ME) : ME := fun ρ s => (f ρ s).bind fun d s1 => match d with
  | .bl b => .ok (.bl (!b)) s1
  | _ => .stuck
def mIf (t : MT) (f g : ME) : ME := fun ρ s => (t ρ s).bind fun b s1 => if b then f ρ s1 else g ρ s1
/-- truth -/
def truD (s : Sto) : D → Option Bool
  | .non => some false
  | .bl b => some b
  | .int i => some (i != 0)
  | .str x => if x.length ≤ 1000000 then some ((x.length : Int) != 0) else none
  | d => match view s d with
    | some (.lst, ds) => some (!ds.isEmpty)
    | some (.sq, ds) => some (!ds.isEmpty)
    | some (.tup, ds) => some (!ds.isEmpty)
    | _ => none
def mTru (f : ME) : MT := fun ρ s => (f ρ s).bind fun d s1 => match truD s1 d with
  | some b => .ok b s1
  | none => .stuck
theorem RepL.isEmpty {K : PySem.W.Frag} {m : CM} {Hf : Hp} {ds : List D} {vs : List V} (h : RepL K m Hf ds vs) : vs.isEmpty = ds.isEmpty := by
  cases ds with
  | nil => rw [h.nilI]; rfl
  | cons d ds =>
    obtain ⟨v, r, rfl, _, _⟩ := h.consI
    rfl
theorem line_big {n : Nat} (h : n ≤ 1000000) : n ≤ sizeLine := by rw [sizeLine_eq]; omega
theorem tru_of {K : PySem.W.Frag} {m : CM} {Hf H : Hp} {s : Sto} {d : D} {v : V} {b : Bool} (R : Rel K m Hf s H) (r : Rep K m Hf d v) (h : truD s d = some b) : TruV K v H b := by
  have seq : ∀ {d : D} {v : V}, Rep K m Hf d v → (match view s d with
    | some (.lst, ds) => some (!ds.isEmpty)
    | some (.sq, ds) => some (!ds.isEmpty)
    | some (.tup, ds) => some (!ds.isEmpty)
    | _ => (none : Option Bool)) = some b → TruV K v H b := by
    intro d v r h
    cases e : view s d with
    | none => rw [e] at h; cases h
    | some p =>
      obtain ⟨t, ds⟩ := p
      obtain ⟨a, vs, rfl, h2, h3⟩ := view_ok R r e
      rw [e] at h
      cases t with
      | lst => cases h; exact .inl ⟨vs, SqL.of h2, by rw [h3.isEmpty]⟩
      | sq => cases h; exact .inl ⟨vs, h2, by rw [h3.isEmpty]⟩
      | tup => cases h; exact .inr (.inl ⟨vs, h2, by rw [h3.isEmpty]⟩)
      | _ => cases h
  cases d with
  | non => unfold truD at h; cases h; unfold Rep at r; subst r; rfl
  | bl c => unfold truD at h; cases h; unfold Rep at r; subst r; rfl
  | int i => unfold truD at h; cases h; unfold Rep at r; subst r; rfl
  | str x =>
    unfold truD at h
    unfold Rep at r
    subst r
    dsimp only at h
    split at h
    · rename_i hl
      cases h
      exact ⟨line_big hl, rfl⟩
    · cases h
  | node t ds => exact seq r h
  | cell l k => exact seq r h
  | glo x => exact seq r h
  | ty n => exact seq r h
section
variable {X : Cx} {pos : Pos} {a b c : Expr} {rest : List Expr} {fa fb fc : ME} {ta tb : MT}
theorem jt_of {e : Expr} {f : ME} (h : ∀ (W : WX), Takes X W → ∀ (m : CM) (Hf : Hp) (ρ : Env') (σ : L2.St) (s : Sto) (H : Hp) (Q : VK), EnvOk X.K m Hf ρ σ → Rel X.K m Hf s H → Post X.K m Hf (Rep X.K) Q (EW W σ) (f ρ s) →
    ∀ (T : Bool → Hp → Prop), (∀ v H', Q v H' → ∃ k, v = .bl k ∧ T k H') → tWT X e σ H T) : JT X e (mTest f) := ⟨fun W tk m Hf ρ σ s H Q he R hp =>
  h W tk m Hf ρ σ s H (fun v H' => ∃ k, v = .bl k ∧ Q k H') he R (Post.bind hp fun d s1 m1 Hf1 H1 v e1 e2 R1 r1 h1 => by
    cases d with
    | bl k =>
      unfold Rep at r1
      exact ⟨k, r1, h1.ok R1 rfl⟩
    | _ => exact h1.elim) Q fun v H' q => q⟩
theorem jt_cmp {op : CmpOp} {r : R2} {g : D → D → Sto → R D} (ho : OpR X (compareOp op) r) (hm : behindInMarks op b = false) (hs : O2 X.K r g) (ha : JE X a fa) (hb : JE X b fb) : JT X (.Compare a [op] [b] pos) (mTest (mBin g fa fb)) := ⟨fun W tk m Hf ρ σ s H Q he R h =>
  wt_of (pt_cmpR ho pe_W pe_W hm) (by
    unfold mTest mBin at h
    have h' : Post X.K m Hf relB Q (EW W σ) ((fa ρ s).bind fun x s1 => (fb ρ s1).bind fun y s2 => (g x y s2).bind fun d s1 => match d with
      | .bl b => .ok b s1
      | _ => .stuck) := by
      cases e : fa ρ s with
      | ok d s1 =>
        rw [e] at h
        simp only [Bw.R.bind_ok] at h ⊢
        cases e2 : fb ρ s1 with
        | ok d2 s2 => rw [e2] at h; exact h
        | ex c fs s2 => rw [e2] at h; exact h
        | stuck => rw [e2] at h; exact h
      | ex c fs s2 => rw [e] at h; exact h
      | stuck => rw [e] at h; exact h
    refine ha.two hb tk he R h' fun _ _ _ _ _ _ _ _ _ _ R2 r1 r2 h2 => hs (E := EW W σ) R2 r1 r2 (Post.bind h2 fun d s1 m1 Hf1 H1 v e1 e2 R1 r1 h1 => ?_)
    cases d with
    | bl k =>
      unfold Rep at r1
      exact ⟨k, r1, h1.ok R1 rfl⟩
    | _ => exact h1.elim)⟩
/-- a chain, a value of truth by its own: as a test -/
theorem jt_chain {op op' : CmpOp} {r r' : R2} {g g' : D → D → Sto → R D} (ho : OpR X (compareOp op) r) (ho' : OpR X (compareOp op') r') (hs : O2 X.K r g) (hs' : O2 X.K r' g') (ha : JE X a fa) (hb : JE X b fb) (hc : JE X c fc) (hm : lastMarks [op, op'] [b, c] = false := by rfl) : JT X (.Compare a [op, op'] [b, c] pos) (mTest (mChain g g' fa fb fc)) := by
  refine jt_of fun W tk m Hf ρ σ s H Q he R h T hT => ?_
  refine wt_of (pt_chain ho ho' pe_W pe_W pe_W hm) (ha.two hb tk he R h fun m2 Hf2 s2 H2 x y v u e1 e2 R2 r1 r2 h2 => ?_)
  refine hs (E := EW W σ) R2 r1 r2 (Post.bind h2 fun z s3 m3 Hf3 H3 w e3 e4 R3 r3 h3 => ?_)
  cases z with
  | bl k =>
    unfold Rep at r3
    refine ⟨k, r3, ?_⟩
    cases k with
    | true =>
      rw [if_pos rfl]
      refine hc.run W tk m3 Hf3 ρ σ s3 H3 _ (he.mono (e1.trans e3) (e2.trans e4)) R3 (Post.bind h3 fun w4 s4 m4 Hf4 H4 v4 e5 e6 R4 r4 h4 => ?_)
      exact hs' (E := EW W σ) R4 (r2.mono (e3.trans e5) (e4.trans e6)) r4 (Post.bind (k := fun d s => Bw.R.ok d s) (by cases hh : g' y w4 s4 with
        | ok d s5 => rw [hh] at h4; exact h4
        | ex c fs s5 => rw [hh] at h4; exact h4
        | stuck => rw [hh] at h4; exact h4) fun d s5 m5 Hf5 H5 v5 e7 e8 R5 r5 h5 => hT _ _ (h5.ok R5 r5))
    | false =>
      rw [if_neg Bool.false_ne_true]
      exact hT _ _ (h3.ok R3 (by unfold Rep; rfl))
  | _ => exact h3.elim
theorem jt_tru (ha : JE X a fa) (he : ∀ whole, isTrue a X.env whole = (do let v ← whole; standAt a.pos; holding [v] (truthy v)) := by intro _; rfl) : JT X a (mTru fa) := ⟨fun W tk m Hf ρ σ s H Q hen R h =>
  wt_of (pt_truth pe_W he) (ha.run W tk m Hf ρ σ s H _ hen R (Post.bind h fun d s1 m1 Hf1 H1 v e1 e2 R1 r1 h1 => by
    cases e : truD s1 d with
    | none => rw [e] at h1; exact h1.elim
    | some k =>
      rw [e] at h1
      exact ⟨k, tru_of R1 r1 e, h1.ok R1 rfl⟩))⟩
theorem jt_not (ha : JT X a ta) : JT X (.UnaryOp .Not a pos) (mNot ta) := ⟨fun W tk m Hf ρ σ s H Q he R h =>
  wt_of (pt_not pt_W) (ha.run W tk m Hf ρ σ s H _ he R (Post.bind h fun d s1 m1 Hf1 H1 v e1 e2 R1 r1 h1 => by
    subst r1
    exact h1.ok R1 rfl))⟩
theorem jt_w {e : Expr} (h : JW X e ta) : JT X e ta := ⟨fun W tk m Hf ρ σ s H Q he R hp => wt_of (pw_W (X := X)).pt (h.run W tk m Hf ρ σ s H Q he R hp)⟩
theorem jw_and1 (ha : JT X a ta) : JW X (.BoolOp .And [a] pos) ta := ⟨fun W tk m Hf ρ σ s H Q he R h => ww_of (pw_and1 pt_W) (ha.run W tk m Hf ρ σ s H Q he R h)⟩
theorem jw_or1 (ha : JT X a ta) : JW X (.BoolOp .Or [a] pos) ta := ⟨fun W tk m Hf ρ σ s H Q he R h => ww_of (pw_or1 pt_W) (ha.run W tk m Hf ρ σ s H Q he R h)⟩
theorem jw_and (ha : JT X a ta) (hb : JW X (.BoolOp .And (b :: rest) pos) tb) : JW X (.BoolOp .And (a :: b :: rest) pos) (mAnd ta tb) := ⟨fun W tk m Hf ρ σ s H Q he R h =>
  ww_of (pw_and pt_W pw_W) (ha.run W tk m Hf ρ σ s H _ he R (Post.bind h fun d s1 m1 Hf1 H1 v e1 e2 R1 r1 h1 => by
    subst r1
    cases d with
    | true =>
      rw [if_pos rfl] at h1 ⊢
      exact hb.run W tk m1 Hf1 ρ σ s1 H1 Q (he.mono e1 e2) R1 h1
    | false =>
      rw [if_neg Bool.false_ne_true] at h1 ⊢
      exact h1.ok R1 rfl))⟩
theorem jw_or (ha : JT X a ta) (hb : JW X (.BoolOp .Or (b :: rest) pos) tb) : JW X (.BoolOp .Or (a :: b :: rest) pos) (mOr ta tb) := ⟨fun W tk m Hf ρ σ s H Q he R h =>
  ww_of (pw_or pt_W pw_W) (ha.run W tk m Hf ρ σ s H _ he R (Post.bind h fun d s1 m1 Hf1 H1 v e1 e2 R1 r1 h1 => by
    subst r1
    cases d with
    | true =>
      rw [if_pos rfl] at h1 ⊢
      exact h1.ok R1 rfl
    | false =>
      rw [if_neg Bool.false_ne_true] at h1 ⊢
      exact hb.run W tk m1 Hf1 ρ σ s1 H1 Q (he.mono e1 e2) R1 h1))⟩
theorem je_one {op : BoolOp} (ha : JE X a fa) : JE X (.BoolOp op [a] pos) fa := ⟨fun W tk m Hf ρ σ s H Q he R h => we_of (pe_one pe_W) (ha.run W tk m Hf ρ σ s H Q he R h)⟩
theorem je_and (ha : JE X a fa) (hb : JE X (.BoolOp .And (b :: rest) pos) fb) : JE X (.BoolOp .And (a :: b :: rest) pos) (mAndV fa fb) := ⟨fun W tk m Hf ρ σ s H Q he R h =>
  we_of (pe_and pe_W pe_W) (ha.run W tk m Hf ρ σ s H _ he R (Post.bind h fun d s1 m1 Hf1 H1 v e1 e2 R1 r1 h1 => by
    cases d with
    | bl k =>
      unfold Rep at r1
      refine ⟨k, r1, ?_⟩
      cases k with
      | true =>
        rw [if_pos rfl]
        exact hb.run W tk m1 Hf1 ρ σ s1 H1 Q (he.mono e1 e2) R1 h1
      | false =>
        rw [if_neg Bool.false_ne_true]
        exact h1.ok R1 (by unfold Rep; rfl)
    | _ => exact h1.elim))⟩
theorem je_or (ha : JE X a fa) (hb : JE X (.BoolOp .Or (b :: rest) pos) fb) : JE X (.BoolOp .Or (a :: b :: rest) pos) (mOrV fa fb) := ⟨fun W tk m Hf ρ σ s H Q he R h =>
  we_of (pe_or pe_W pe_W) (ha.run W tk m Hf ρ σ s H _ he R (Post.bind h fun d s1 m1 Hf1 H1 v e1 e2 R1 r1 h1 => by
    cases d with
    | bl k =>
      unfold Rep at r1
      refine ⟨k, r1, ?_⟩
      cases k with
      | true =>
        rw [if_pos rfl]
        exact h1.ok R1 (by unfold Rep; rfl)
      | false =>
        rw [if_neg Bool.false_ne_true]
        exact hb.run W tk m1 Hf1 ρ σ s1 H1 Q (he.mono e1 e2) R1 h1
    | _ => exact h1.elim))⟩
theorem je_not (ha : JE X a fa) : JE X (.UnaryOp .Not a pos) (mNotV fa) := ⟨fun W tk m Hf ρ σ s H Q he R h =>
  we_of (pe_not pe_W) (ha.run W tk m Hf ρ σ s H _ he R (Post.bind h fun d s1 m1 Hf1 H1 v e1 e2 R1 r1 h1 => by
    cases d with
    | bl k =>
      unfold Rep at r1
      exact ⟨k, r1, h1.ok R1 (by unfold Rep; rfl)⟩
    | _ => exact h1.elim))⟩
theorem je_if {t : Expr} {tc : MT} (hc : JT X t tc) (ha : JE X a fa) (hb : JE X b fb) : JE X (.IfExp t a b pos) (mIf tc fa fb) := ⟨fun W tk m Hf ρ σ s H Q he R h =>
  we_of (pe_ifExp pt_W pe_W pe_W) (hc.run W tk m Hf ρ σ s H _ he R (Post.bind h fun d s1 m1 Hf1 H1 v e1 e2 R1 r1 h1 => by
    subst r1
    cases d with
    | true =>
      rw [if_pos rfl] at h1 ⊢
      exact ha.run W tk m1 Hf1 ρ σ s1 H1 Q (he.mono e1 e2) R1 h1
    | false =>
      rw [if_neg Bool.false_ne_true] at h1 ⊢
      exact hb.run W tk m1 Hf1 ρ σ s1 H1 Q (he.mono e1 e2) R1 h1))⟩
end

/-! ### arguments, built-ins -/
def mNil : MA := fun _ s => .ok [] s
def mCons (f : ME) (g : MA) : MA := fun ρ s => (f ρ s).bind fun d s1 => (g ρ s1).bind fun ds s2 => .ok (d :: ds) s2
def mCall (g : List D → Sto → R D) (fa : MA) : ME := fun ρ s => (fa ρ s).bind fun ds s1 => g ds s1
/-- may a method of T be looked up there -/
def tyD (T : String) (s : Sto) (d : D) : Bool := match d with
  | .str _ => T == "str"
  | .cell l k => match s.get l k with
    | some (.live .lst _) => T == "list"
    | some (.lock .lst _) => T == "list"
    | some (.live (.dK _) _) => T == "dict"
    | some (.live (.dT _) _) => T == "dict"
    | _ => false
  | .node .lst _ => T == "list"
  | _ => false
def mMeth (T : String) (g : D → List D → Sto → R D) (f : ME) (fa : MA) : ME := fun ρ s => (f ρ s).bind fun d s1 => if tyD T s1 d then (fa ρ s1).bind fun ds s2 => g d ds s2 else .stuck
theorem tyD_ok {K : PySem.W.Frag} {m : CM} {Hf H : Hp} {s : Sto} {d : D} {v : V} {T : String} (R : Rel K m Hf s H) (r : Rep K m Hf d v) (h : tyD T s d = true) : tyV K T v H := by
  unfold tyD at h
  cases d with
  | str x =>
    unfold Rep at r
    subst r
    exact beq_iff_eq.mp h
  | node t ds =>
    cases t with
    | lst =>
      unfold Rep at r
      obtain ⟨a, vs, rfl, h2, _⟩ := r
      exact .inl ⟨beq_iff_eq.mp h, vs, SqL.of (R.same _ _ h2)⟩
    | _ => cases h
  | cell l k =>
    unfold Rep at r
    obtain ⟨a, h1, rfl⟩ := r
    dsimp only at h
    cases e : s.get l k with
    | none => rw [e] at h; cases h
    | some c =>
      obtain ⟨a', q1, _, q2⟩ := R.cell l k c e
      rw [h1] at q1
      cases q1
      rw [e] at h
      cases c with
      | live t ds =>
        obtain ⟨_, _, _, vs, z4, _⟩ := q2
        cases t with
        | lst => exact .inl ⟨beq_iff_eq.mp h, vs, SqL.of z4⟩
        | dK ks => exact .inr (.inr (.inl ⟨beq_iff_eq.mp h, .inl ⟨_, z4.2⟩⟩))
        | dT ks => exact .inr (.inr (.inl ⟨beq_iff_eq.mp h, .inr ⟨_, z4.2⟩⟩))
        | _ => cases h
      | lock t ds =>
        obtain ⟨_, _, vs, z4, _⟩ := q2
        cases t with
        | lst => exact .inl ⟨beq_iff_eq.mp h, vs, SqL.of (R.lk _ _ z4)⟩
        | _ => cases h
      | dead => cases h
  | _ => cases h
section
variable {X : Cx} {pos p : Pos} {e a b c : Expr} {es : List Expr} {f : ME} {fa : MA} {x : Str}
theorem ja_nil : JA X [] mNil := ⟨fun W tk m Hf ρ σ s H Q he R h => wa_of pa_nil (h.ok R RepL.nil)⟩
theorem ja_cons (ha : JE X e f) (hr : JA X es fa) (hs : starEach (e :: es) X.env = (false, eval e X.env) :: starEach es X.env := by rfl) : JA X (e :: es) (mCons f fa) := ⟨fun W tk m Hf ρ σ s H Q he R h => by
  refine wa_of (pa_cons pe_W pa_W hs) (ha.run W tk m Hf ρ σ s H _ he R (Post.bind h fun d s1 m1 Hf1 H1 v e1 e2 R1 r1 h1 => ?_))
  refine hr.run W tk m1 Hf1 ρ σ s1 H1 _ (he.mono e1 e2) R1 (Post.bind h1 fun ds s2 m2 Hf2 H2 vs e3 e4 R2 r2 h2 => ?_)
  exact h2.ok R2 (RepL.cons (r1.mono e3 e4) r2)⟩
theorem je_callB {id : String} {r : List V → Hp → VK → Prop} {g : List D → Sto → R D} (hc : CallR X (.builtin id) r) (hs : OL X.K r g) (hg : Gl X x) (hm : X.mg x = none) (hv : bootBuiltins x = some (.builtin id)) (ha : JA X (e :: es) fa) (hn : x ≠ "__name__" := by decide) (hdb : (x == ("__debug__" : Str)) = false := by decide)
    (he : starEach (e :: es) X.env = (false, eval e X.env) :: starEach es X.env := by rfl) (hpl : (backTo pos (starEach es X.env)).any (·.1) = false := by rfl) : JE X (.Call (.Name x p) (e :: es) [] pos) (mCall g fa) := ⟨fun W tk m Hf ρ σ s H Q hen R h =>
  we_of (pe_callB hc hg hm hv pa_W hn hdb he hpl) (ha.run W tk m Hf ρ σ s H _ hen R (Post.bind h fun d s1 m1 Hf1 H1 v e1 e2 R1 r1 h1 => hs R1 r1 h1))⟩
theorem je_callTy {T : String} {r : List V → Hp → VK → Prop} {g : List D → Sto → R D} (hc : CallR X (.type T) r) (hs : OL X.K r g) (hg : Gl X x) (hm : X.mg x = none) (hv : bootBuiltins x = some (.type T)) (ha : JA X (e :: es) fa) (hn : x ≠ "__name__" := by decide) (hdb : (x == ("__debug__" : Str)) = false := by decide)
    (he : starEach (e :: es) X.env = (false, eval e X.env) :: starEach es X.env := by rfl) (hpl : (backTo pos (starEach es X.env)).any (·.1) = false := by rfl) : JE X (.Call (.Name x p) (e :: es) [] pos) (mCall g fa) := ⟨fun W tk m Hf ρ σ s H Q hen R h =>
  we_of (pe_callTy hc hg hm hv pa_W hn hdb he hpl) (ha.run W tk m Hf ρ σ s H _ hen R (Post.bind h fun d s1 m1 Hf1 H1 v e1 e2 R1 r1 h1 => hs R1 r1 h1))⟩
theorem je_bm {T id : String} {name : Str} {apos cpos : Pos} {o : Expr} {fo : ME} {r : V → List V → Hp → VK → Prop} {g : D → List D → Sto → R D} (pa : PlainAttrs T) (slot : Slot T name id) (hty : typeOf (.builtin id) = pure (.type "method_descriptor")) (hm : MtR X id r) (hs : OM X.K r g) (ho : JE X o fo) (ha : JA X (e :: es) fa)
    (hbase : attributeBase o name X.env (eval o X.env) = eval o X.env := by rfl)
    (hfew : ((backTo cpos (starEach (e :: es) X.env)).all (fun x => !x.1) && (backToKw cpos (keywordEach [] X.env)).all (fun x => x.1.isSome)
      && decide ((e :: es).length + ([] : List Keyword).length + (if ([] : List Keyword).isEmpty then 0 else 1) < 30)) = true := by rfl)
    (hline : (apos.endLine == cpos.line) = true := by rfl) (hst : starEach (e :: es) X.env = (false, eval e X.env) :: starEach es X.env := by rfl) (hplain : (backTo cpos (starEach es X.env)).any (·.1) = false := by rfl) :
    JE X (.Call (.Attribute o name apos) (e :: es) [] cpos) (mMeth T g fo fa) := ⟨fun W tk m Hf ρ σ s H Q hen R h => by
  refine we_of (pe_bm pa slot hty hm pe_W pa_W hbase hfew hline hst hplain) (ho.run W tk m Hf ρ σ s H _ hen R (Post.bind h fun d s1 m1 Hf1 H1 v e1 e2 R1 r1 h1 => ?_))
  cases hd : tyD T s1 d with
  | false => rw [hd] at h1; exact h1.elim
  | true =>
    rw [hd, if_pos rfl] at h1
    refine ⟨tyD_ok R1 r1 hd, ha.run W tk m1 Hf1 ρ σ s1 H1 _ (hen.mono e1 e2) R1 (Post.bind h1 fun ds s2 m2 Hf2 H2 vs e3 e4 R2 r2 h2 => ?_)⟩
    exact hs R2 (r1.mono e3 e4) r2 h2⟩
theorem je_bm0 {T id : String} {name : Str} {apos cpos : Pos} {o : Expr} {fo : ME} {r : V → List V → Hp → VK → Prop} {g : D → List D → Sto → R D} (pa : PlainAttrs T) (slot : Slot T name id) (hty : typeOf (.builtin id) = pure (.type "method_descriptor")) (hm : MtR X id r) (hs : OM X.K r g) (ho : JE X o fo)
    (hbase : attributeBase o name X.env (eval o X.env) = eval o X.env := by rfl) (hline : (apos.endLine == cpos.line) = true := by rfl) : JE X (.Call (.Attribute o name apos) [] [] cpos) (mMeth T g fo mNil) := ⟨fun W tk m Hf ρ σ s H Q hen R h => by
  refine we_of (pe_bm0 pa slot hty hm pe_W hbase hline) (ho.run W tk m Hf ρ σ s H _ hen R (Post.bind h fun d s1 m1 Hf1 H1 v e1 e2 R1 r1 h1 => ?_))
  cases hd : tyD T s1 d with
  | false => rw [hd] at h1; exact h1.elim
  | true =>
    rw [hd, if_pos rfl] at h1
    exact ⟨tyD_ok R1 r1 hd, hs R1 r1 RepL.nil h1⟩⟩
/-- a subscript, by values -/
theorem je_ix {r : R2} {g : D → D → Sto → R D} {fb fx : ME} (hr : IxR X r) (hs : O2 X.K r g) (ha : JE X a fx) (hb : JE X b fb) (hp : PlainIx b := by exact fun _ _ => rfl) : JE X (.Subscript a b pos) (mBin g fx fb) := ⟨fun W tk m Hf ρ σ s H Q he R h =>
  we_of (pe_ix hr pe_W pe_W hp) (ha.two hb tk he R h fun _ _ _ _ _ _ _ _ _ _ R2 r1 r2 h2 => hs R2 r1 r2 h2)⟩
end
/-! ### slices -/
abbrev MO := Env' → Sto → R (Option Int)
structure JO (X : Cx) (e : Option Expr) (f : MO) : Prop where
  run : ∀ (W : WX), Takes X W → ∀ (m : CM) (Hf : Hp) (ρ : Env') (σ : L2.St) (s : Sto) (H : Hp) (Q : Option Int → Hp → Prop), EnvOk X.K m Hf ρ σ → Rel X.K m Hf s H → Post X.K m Hf (fun _ _ (a b : Option Int) => a = b) Q (EW W σ) (f ρ s) →
    ∀ pins s', Inv X pins σ H s' → wpAny (model X.prog X.w) X.A (evalPart e X.env) (fun u s'' => ∃ o H', Inv X pins σ H' s'' ∧ IsPart u o ∧ Q o H') X.xe s'
def mPart (f : ME) : MO := fun ρ s => (f ρ s).bind fun d s1 => match d with
  | .int i => .ok (some i) s1
  | _ => .stuck
def mNoPart : MO := fun _ s => .ok none s
def OS (K : PySem.W.Frag) (r : V → Option Int → Option Int → Hp → VK → Prop) (g : D → Option Int → Option Int → Sto → R D) : Prop :=
  ∀ {m : CM} {Hf : Hp} {s : Sto} {H : Hp} {x : D} {v : V} {lo hi : Option Int} {Q : VK} {E : XK}, Rel K m Hf s H → Rep K m Hf x v → Post K m Hf (Rep K) Q E (g x lo hi s) → r v lo hi H Q
def mSl (g : D → Option Int → Option Int → Sto → R D) (f : ME) (lo hi : MO) : ME := fun ρ s => (f ρ s).bind fun d s1 => (lo ρ s1).bind fun l s2 => (hi ρ s2).bind fun h s3 => g d l h s3
section
variable {X : Cx} {pos p2 : Pos} {e a : Expr} {lo hi : Option Expr} {f fa : ME} {fl fh : MO}
theorem jo_none : JO X none mNoPart := ⟨fun W tk m Hf ρ σ s H Q he R h pins s' I => po_none.run pins s' σ H Q I (h.ok R rfl)⟩
theorem jo_some (ha : JE X e f) : JO X (some e) (mPart f) := ⟨fun W tk m Hf ρ σ s H Q he R h pins s' I => (po_some pe_W).run pins s' σ H Q I (ha.run W tk m Hf ρ σ s H _ he R (Post.bind h fun d s1 m1 Hf1 H1 v e1 e2 R1 r1 h1 => by
  cases d with
  | int i =>
    unfold Rep at r1
    exact ⟨i, r1, h1.ok R1 rfl⟩
  | _ => exact h1.elim))⟩
def tWO (X : Cx) (e : Option Expr) : TO := fun σ H Q => ∀ pins s', Inv X pins σ H s' → wpAny (model X.prog X.w) X.A (evalPart e X.env) (fun u s'' => ∃ o H', Inv X pins σ H' s'' ∧ IsPart u o ∧ Q o H') X.xe s'
theorem po_W {e : Option Expr} : PO X e (tWO X e) := ⟨fun pins s σ H Q I h => h pins s I⟩
theorem je_slice {r : V → Option Int → Option Int → Hp → VK → Prop} {g : D → Option Int → Option Int → Sto → R D} (hr : SlR X r) (hs : OS X.K r g) (ha : JE X a fa) (hl : JO X lo fl) (hh : JO X hi fh) : JE X (.Subscript a (.Slice lo hi none p2) pos) (mSl g fa fl fh) := ⟨fun W tk m Hf ρ σ s H Q he R h => by
  refine we_of (pe_slice hr pe_W po_W po_W) (ha.run W tk m Hf ρ σ s H _ he R (Post.bind h fun d s1 m1 Hf1 H1 v e1 e2 R1 r1 h1 => ?_))
  refine hl.run W tk m1 Hf1 ρ σ s1 H1 _ (he.mono e1 e2) R1 (Post.bind h1 fun l s2 m2 Hf2 H2 l' e3 e4 R2 r2 h2 => ?_)
  refine hh.run W tk m2 Hf2 ρ σ s2 H2 _ (he.mono (e1.trans e3) (e2.trans e4)) R2 (Post.bind h2 fun u s3 m3 Hf3 H3 u' e5 e6 R3 r3 h3 => ?_)
  subst r2 r3
  exact hs R3 (r1.mono (e3.trans e5) (e4.trans e6)) h3⟩
end
end Bw

namespace Bw
open PySem PySem.Spec PyProof.Rows L2

/-! ### targets -/
abbrev MG := D → Env' → Sto → R Env'
abbrev MGs := List D → Env' → Sto → R Env'
/-- the slots but those at vs stay -/
def Chg (vs : List Nat) (σ σ' : L2.St) : Prop := σ'.length = σ.length ∧ ∀ i : Nat, i ∉ vs → σ'[i]? = σ[i]?
def relG (K : PySem.W.Frag) (vs : List Nat) (σ : L2.St) : CM → Hp → Env' → L2.St → Prop := fun m Hf ρ' σ' => EnvOk K m Hf ρ' σ' ∧ Chg vs σ σ'
def tWG (X : Cx) (tg : Expr) : TG := fun v σ H Q => ∀ pins s u, Inv X pins σ H s → RelV v u → wpAny (model X.prog X.w) X.A (assign tg X.env u) (fun _ s' => ∃ σ' H', Inv X pins σ' H' s' ∧ Q σ' H') X.xe s
def tWGs (X : Cx) (ts : List Expr) : TGs := fun vs σ H Q => ∀ pins s us, Inv X pins σ H s → Vals vs us → wpAny (model X.prog X.w) X.A (assignInOrder ((assignEach ts X.env).map (·.2)) us) (fun _ s' => ∃ σ' H', Inv X pins σ' H' s' ∧ Q σ' H') X.xe s
theorem pg_W {X : Cx} {tg : Expr} : PG X tg (tWG X tg) := ⟨fun pins s σ H v u Q I r h => h pins s u I r⟩
theorem pgs_W {X : Cx} {ts : List Expr} : PGs X ts (tWGs X ts) := ⟨fun pins s σ H v u Q I r h => h pins s u I r⟩
abbrev EN : XK := fun _ _ _ => False
theorem Post.noE {α β : Type} {K : PySem.W.Frag} {m : CM} {Hf : Hp} {rel : CM → Hp → α → β → Prop} {Q : β → Hp → Prop} {E : XK} {r : R α} (h : Post K m Hf rel Q EN r) : Post K m Hf rel Q E r := by
  cases r with
  | ok a s => exact h
  | ex c fs s => exact fun m' Hf' H' cls d e1 e2 R r => (h m' Hf' H' cls d e1 e2 R r).elim
  | stuck => exact h
/-- no exception -/
def noEx {α : Type} (r : R α) : R α := match r with
  | .ok a s => .ok a s
  | _ => .stuck
@[simp] theorem noEx_ok {α : Type} (a : α) (s : Sto) : noEx (R.ok a s) = .ok a s := rfl
theorem Post.of_noEx {α β : Type} {K : PySem.W.Frag} {m : CM} {Hf : Hp} {rel : CM → Hp → α → β → Prop} {Q : β → Hp → Prop} {E E' : XK} {r : R α} (h : Post K m Hf rel Q E (noEx r)) : Post K m Hf rel Q E' r := by
  cases r with
  | ok a s => exact h
  | ex c fs s => exact h.elim
  | stuck => exact h
structure JG (X : Cx) (tg : Expr) (vs : List Nat) (f : MG) : Prop where
  run : ∀ (W : WX), Takes X W → ∀ (m : CM) (Hf : Hp) (ρ : Env') (σ : L2.St) (s : Sto) (H : Hp) (d : D) (v : V) (Q : L2.St → Hp → Prop), EnvOk X.K m Hf ρ σ → Rel X.K m Hf s H → Rep X.K m Hf d v → Post X.K m Hf (relG X.K vs σ) Q EN (f d ρ s) → tWG X tg v σ H Q
structure JGs (X : Cx) (ts : List Expr) (vs : List Nat) (f : MGs) : Prop where
  run : ∀ (W : WX), Takes X W → ∀ (m : CM) (Hf : Hp) (ρ : Env') (σ : L2.St) (s : Sto) (H : Hp) (ds : List D) (us : List V) (Q : L2.St → Hp → Prop), EnvOk X.K m Hf ρ σ → Rel X.K m Hf s H → RepL X.K m Hf ds us → Post X.K m Hf (relG X.K vs σ) Q EN (f ds ρ s) → tWGs X ts us σ H Q
theorem Chg.refl (vs : List Nat) (σ : L2.St) : Chg vs σ σ := ⟨rfl, fun _ _ => rfl⟩
theorem Chg.trans {us vs : List Nat} {a b c : L2.St} (h : Chg us a b) (h' : Chg vs b c) : Chg (us ++ vs) a c := ⟨h'.1.trans h.1, fun i hi => by
  rw [List.mem_append, not_or] at hi
  exact (h'.2 i hi.2).trans (h.2 i hi.1)⟩
theorem Chg.set {i : Nat} {o : Option V} {σ : L2.St} : Chg [i] σ (σ.set i o) := ⟨by simp, fun j hj => by
  have : i ≠ j := fun e => hj (by simp [e])
  exact List.getElem?_set_ne this⟩
theorem wipe_chg {σ σ' : L2.St} : ∀ {vs us : List Nat}, (∀ i ∈ us, i ∈ vs) → Chg us (wipe σ vs) σ' → wipe σ' vs = wipe σ vs := by
  intro vs us hs hc
  have key : ∀ (τ : L2.St) (vs : List Nat) (i : Nat), (wipe τ vs)[i]? = if i ∈ vs then (if i < τ.length then some none else none) else τ[i]? := by
    intro τ vs
    induction vs with
    | nil => intro i; simp [wipe]
    | cons v vs ih =>
      intro i
      unfold wipe
      by_cases h : v = i
      · subst h
        by_cases hl : v < τ.length
        · rw [List.getElem?_set_self (by rw [wipe_length]; exact hl)]; simp [hl]
        · rw [List.getElem?_eq_none (by simpa [wipe_length] using hl)]; simp [hl]
      · rw [List.getElem?_set_ne h, ih]
        have h' : ¬ i = v := fun e => h e.symm
        simp [h']
  apply List.ext_getElem?
  intro i
  rw [key σ' vs i]
  have hl : σ'.length = σ.length := by rw [hc.1, wipe_length]
  by_cases hi : i ∈ vs
  · rw [key σ vs i, if_pos hi, if_pos hi, hl]
  · rw [if_neg hi]
    exact hc.2 i fun h => hi (hs i h)
def gName' (i : Nat) : MG := fun d ρ s => .ok (ρ.set i (some d)) s
def gsNil : MGs := fun ds ρ s => match ds with
  | [] => .ok ρ s
  | _ => .stuck
def gsCons (f : MG) (g : MGs) : MGs := fun ds ρ s => match ds with
  | d :: r => (f d ρ s).bind fun ρ1 s1 => g r ρ1 s1
  | [] => .stuck
def gTup' (n : Nat) (g : MGs) : MG := fun d ρ s => match view s d with
  | some (.tup, ds) => if ds.length = n then g ds ρ s else .stuck
  | _ => .stuck
/-- o[i] = v -/
def gSub' (g : D → D → D → Sto → R Unit) (fo fi : ME) : MG := fun d ρ s => noEx ((fo ρ s).bind fun o s1 => (fi ρ s1).bind fun i s2 => (g o i d s2).bind fun _ s3 => .ok ρ s3)
def O3 (K : PySem.W.Frag) (r : TSet) (g : D → D → D → Sto → R Unit) : Prop :=
  ∀ {m : CM} {Hf : Hp} {s : Sto} {H : Hp} {x y z : D} {v u w : V} {Q : Hp → Prop} {E : XK}, Rel K m Hf s H → Rep K m Hf x v → Rep K m Hf y u → Rep K m Hf z w → Post K m Hf (fun _ _ _ _ => True) (fun (_ : Unit) H' => Q H') E (g x y z s) → r v u w H Q
section
variable {X : Cx} {pos : Pos} {e o i : Expr} {es : List Expr} {us vs : List Nat} {f : MG} {g : MGs} {fo fi : ME}
theorem jg_name (i : Nat) {x : Str} (hN : X.N.Nodup) (hi : X.N[i]? = some x := by rfl) (hx : Loc X.env.scope x := by first | exact Or.inl rfl | exact Or.inr rfl) (hf : X.fn x = true ∨ X.env.scope.names.lookup x = some .local := by first | exact .inl rfl | exact .inr rfl | assumption) : JG X (.Name x pos) [i] (gName' i) := ⟨fun W tk m Hf ρ σ s H d v Q he R r h pins s' u I rv =>
  (pg_name hN hi hx hf).run pins s' σ H v u Q I rv (h.ok R ⟨he.set r, Chg.set⟩)⟩
theorem jgs_nil : JGs X [] [] gsNil := ⟨fun W tk m Hf ρ σ s H ds us Q he R r h pins s' u I rv => by
  cases ds with
  | nil => rw [r.nilI] at rv; exact pgs_nil.run pins s' σ H [] u Q I rv ⟨rfl, h.ok R ⟨he, Chg.refl _ _⟩⟩
  | cons _ _ => exact h.elim⟩
theorem jgs_cons (h1 : JG X e us f) (h2 : JGs X es vs g) (hs : (assignEach (e :: es) X.env).map (·.2) = assign e X.env :: (assignEach es X.env).map (·.2) := by rfl) : JGs X (e :: es) (us ++ vs) (gsCons f g) := ⟨fun W tk m Hf ρ σ s H ds ws Q he R r h pins s' u I rv => by
  cases ds with
  | nil => exact h.elim
  | cons d ds =>
    obtain ⟨w, wr, rfl, r1, r2⟩ := r.consI
    refine (pgs_cons pg_W pgs_W hs).run pins s' σ H _ u Q I rv ⟨w, wr, rfl, h1.run W tk m Hf ρ σ s H d w _ he R r1 ?_⟩
    refine Post.bind h fun ρ1 s1 m1 Hf1 H1 σ1 e1 e2 R1 q1 hp => ?_
    refine h2.run W tk m1 Hf1 ρ1 σ1 s1 H1 ds wr Q q1.1 R1 (r2.mono e1 e2) ?_
    cases hh : g ds ρ1 s1 with
    | ok ρ2 s2 =>
      rw [hh] at hp
      exact fun m2 Hf2 H2 σ2 e3 e4 R2 q2 => hp m2 Hf2 H2 σ2 e3 e4 R2 ⟨q2.1, Chg.trans q1.2 q2.2⟩
    | ex c fs s2 => rw [hh] at hp; exact hp
    | stuck => rw [hh] at hp; exact hp⟩
theorem jg_tup {k : Nat} {n : Nat} (hc : X.calm = true) (h : JGs X es vs g) (hn : (assignEach es X.env).length = n := by rfl) (hst : (assignEach es X.env).findIdx? (·.1) = none := by rfl) : JG X (.Tuple es k pos) vs (gTup' n g) := ⟨fun W tk m Hf ρ σ s H d v Q he R r hp pins s' u I rv => by
  refine (pg_tup hc pgs_W hn hst).run pins s' σ H v u Q I rv ?_
  unfold gTup' at hp
  cases e : view s d with
  | none => rw [e] at hp; exact hp.elim
  | some p =>
    obtain ⟨t, ds⟩ := p
    obtain ⟨a, ws, rfl, h2, h3⟩ := view_ok R r e
    rw [e] at hp
    cases t with
    | tup =>
      dsimp only at hp
      split at hp
      · rename_i hl
        exact ⟨a, ws, rfl, h2, by rw [h3.length]; exact hl, h.run W tk m Hf ρ σ s H ds ws Q he R h3 hp⟩
      · exact hp.elim
    | _ => exact hp.elim⟩
theorem jg_sub {r : TSet} {gs : D → D → D → Sto → R Unit} (hr : PSet X r) (hs : O3 X.K r gs) (ho : JE X o fo) (hi : JE X i fi)
    (ha : ∀ v, assign (.Subscript o i pos) X.env v = (do
      let ov ← holding [v] (eval o X.env)
      let iv ← holding [v, ov] (eval i X.env)
      standAt pos
      holding [v, ov, iv] (setItem ov iv v)
      release [v, ov, iv] []) := by intro _; rfl) : JG X (.Subscript o i pos) [] (gSub' gs fo fi) := ⟨fun W tk m Hf ρ σ s H d v Q he R rr hp pins s' u I rv => by
  refine (pg_sub pe_W pe_W hr ha).run pins s' σ H v u Q I rv ?_
  have hp' : Post X.K m Hf (relG X.K [] σ) Q (EW W σ) ((fo ρ s).bind fun o s1 => (fi ρ s1).bind fun i s2 => (gs o i d s2).bind fun _ s3 => .ok ρ s3) := Post.of_noEx hp
  refine ho.two hi tk he R hp' fun m2 Hf2 s2 H2 x y v1 u1 e1 e2 R2 r1 r2 h2 => ?_
  refine hs (E := EW W σ) R2 r1 r2 (rr.mono e1 e2) (Post.bind h2 fun _ s3 m3 Hf3 H3 _ e3 e4 R3 _ h3 => ?_)
  exact h3.ok R3 ⟨he.mono (e1.trans e3) (e2.trans e4), Chg.refl _ _⟩⟩
end

/-! ### statements -/
def bindS {α : Type} (r : R α) (ρ : Env') (k : α → Sto → SR) : SR := match r with
  | .ok a s => k a s
  | .ex c fs s => .ex ρ c fs s
  | .stuck => .stuck
@[simp] theorem bindS_ok {α : Type} (a : α) (s : Sto) (ρ : Env') (k : α → Sto → SR) : bindS (.ok a s) ρ k = k a s := rfl
@[simp] theorem bindS_ex {α : Type} (c : Str) (fs : List (Str × D)) (s : Sto) (ρ : Env') (k : α → Sto → SR) : bindS (.ex c fs s : R α) ρ k = .ex ρ c fs s := rfl
theorem PostS.bind {α β : Type} {K : PySem.W.Frag} {m : CM} {Hf : Hp} {D : Ends} {W : WX} {r : R α} {ρ : Env'} {σ : L2.St} {k : α → Sto → SR} {rel : CM → Hp → α → β → Prop} {Q : β → Hp → Prop} (he : EnvOk K m Hf ρ σ) (h : PostS K m Hf D W (bindS r ρ k))
    (hq : ∀ a s m' Hf' H' b, MExt m m' → Same Hf Hf' → Rel K m' Hf' s H' → rel m' Hf' a b → PostS K m' Hf' D W (k a s) → Q b H') : Post K m Hf rel Q (EW W σ) r := by
  cases r with
  | ok a s => exact fun m2 H2 H' b e1 e2 R r => hq a s m2 H2 H' b e1 e2 R r (PostS.mono e1 e2 h)
  | ex c fs s => exact fun m2 H2 H' cls d e1 e2 R r => h m2 H2 H' σ cls d e1 e2 R (he.mono e1 e2) r
  | stuck => exact h
section
variable {K : PySem.W.Frag} {m : CM} {Hf H : Hp} {D : Ends} {W : WX} {ρ : Env'} {σ : L2.St} {s : Sto}
theorem PostS.nx' (h : PostS K m Hf D W (.nx ρ s)) (R : Rel K m Hf s H) (he : EnvOk K m Hf ρ σ) : D.nx σ H := h m Hf H σ (MExt.refl _) (Same.refl _) R he
end
def mNx : MS := fun ρ s => .nx ρ s
def mSeq (f g : MS) : MS := fun ρ s => match f ρ s with
  | .nx ρ1 s1 => g ρ1 s1
  | r => r
def mRet (f : ME) : MS := fun ρ s => bindS (f ρ s) ρ fun d s1 => .rt d s1
def mRetN : MS := fun _ s => .rt .non s
def mDrop (f : ME) : MS := fun ρ s => bindS (f ρ s) ρ fun _ s1 => .nx ρ s1
def mIfS (t : MT) (f g : MS) : MS := fun ρ s => bindS (t ρ s) ρ fun b s1 => if b then f ρ s1 else g ρ s1
def mSetN (i : Nat) (f : ME) : MS := fun ρ s => bindS (f ρ s) ρ fun d s1 => .nx (ρ.set i (some d)) s1
def mAsg (f : ME) (g : MG) : MS := fun ρ s => bindS (f ρ s) ρ fun d s1 => bindS (noEx (g d ρ s1)) ρ fun ρ1 s2 => .nx ρ1 s2
section
variable {X : Cx} {pos pos' : Pos} {st : Stmt} {rest a b : List Stmt} {e tg : Expr} {f g : MS} {fe : ME} {t : Expr} {tc : MT}
theorem jss_nil : JSs X [] mNx := ⟨fun W tk m Hf ρ σ s H D he R h => wss_of pss_nil (h.nx' R he)⟩
theorem jss_cons (h1 : JS X st f) (h2 : JSs X rest g) : JSs X (st :: rest) (mSeq f g) := ⟨fun W tk m Hf ρ σ s H D he R h => wss_of (pss_cons ps_W pss_W) (h1.run W tk m Hf ρ σ s H _ he R (by
  unfold mSeq at h
  cases hh : f ρ s with
  | nx ρ1 s1 =>
    rw [hh] at h
    exact fun m2 Hf2 H2 σ2 e1 e2 R2 he2 => h2.run W tk m2 Hf2 ρ1 σ2 s1 H2 D he2 R2 (PostS.mono e1 e2 h)
  | rt d s1 => rw [hh] at h; exact h
  | bk ρ1 s1 => rw [hh] at h; exact h
  | ct ρ1 s1 => rw [hh] at h; exact h
  | ex ρ1 c fs s1 => rw [hh] at h; exact h
  | stuck => rw [hh] at h; exact h))⟩
theorem jss_one (h1 : JS X st f) : JSs X [st] f := ⟨fun W tk m Hf ρ σ s H D he R h => wss_of (pss_one ps_W) (h1.run W tk m Hf ρ σ s H D he R h)⟩
theorem js_pass : JS X (.Pass pos) mNx := ⟨fun W tk m Hf ρ σ s H D he R h => ws_of ps_pass (h.nx' R he)⟩
theorem js_break : JS X (.Break pos) (fun ρ s => .bk ρ s) := ⟨fun W tk m Hf ρ σ s H D he R h => ws_of ps_break (h m Hf H σ (MExt.refl _) (Same.refl _) R he)⟩
theorem js_continue : JS X (.Continue pos) (fun ρ s => .ct ρ s) := ⟨fun W tk m Hf ρ σ s H D he R h => ws_of ps_continue (h m Hf H σ (MExt.refl _) (Same.refl _) R he)⟩
theorem js_ret (he : JE X e fe) : JS X (.Return (some e) pos) (mRet fe) := ⟨fun W tk m Hf ρ σ s H D hen R h => ws_of (ps_ret pe_W) (he.run W tk m Hf ρ σ s H _ hen R (PostS.bind hen h fun d s1 m1 Hf1 H1 v e1 e2 R1 r1 h1 =>
  h1 m1 Hf1 H1 v (MExt.refl _) (Same.refl _) R1 r1))⟩
theorem js_retN : JS X (.Return none pos) mRetN := ⟨fun W tk m Hf ρ σ s H D he R h => ws_of ps_retN (h m Hf H .non (MExt.refl _) (Same.refl _) R (by unfold Rep; rfl))⟩
theorem js_expr (he : JE X e fe) (hs : swapsWith e none pos.line X.env = pure false := by rfl) : JS X (.Expr e pos) (mDrop fe) := ⟨fun W tk m Hf ρ σ s H D hen R h => ws_of (ps_expr pe_W hs) (he.run W tk m Hf ρ σ s H _ hen R (PostS.bind hen h fun d s1 m1 Hf1 H1 v e1 e2 R1 r1 h1 =>
  h1.nx' R1 (hen.mono e1 e2)))⟩
theorem js_if (hc : JT X t tc) (ha : JSs X a f) (hb : JSs X b g) : JS X (.If t a b pos) (mIfS tc f g) := ⟨fun W tk m Hf ρ σ s H D hen R h => ws_of (ps_if pt_W pss_W pss_W) (hc.run W tk m Hf ρ σ s H _ hen R (PostS.bind hen h fun d s1 m1 Hf1 H1 v e1 e2 R1 r1 h1 => by
  subst r1
  cases d with
  | true => rw [if_pos rfl] at h1 ⊢; exact ha.run W tk m1 Hf1 ρ σ s1 H1 D (hen.mono e1 e2) R1 h1
  | false => rw [if_neg Bool.false_ne_true] at h1 ⊢; exact hb.run W tk m1 Hf1 ρ σ s1 H1 D (hen.mono e1 e2) R1 h1))⟩
theorem js_set (i : Nat) {x : Str} (hN : X.N.Nodup) (he : JE X e fe) (hi : X.N[i]? = some x := by rfl) (hx : Loc X.env.scope x := by first | exact Or.inl rfl | exact Or.inr rfl) (hs : swapsWith e (some (.Name x pos')) pos.line X.env = pure false := by rfl) (hf : X.fn x = true ∨ X.env.scope.names.lookup x = some .local := by first | exact .inl rfl | exact .inr rfl | assumption) :
    JS X (.Assign [.Name x pos'] e pos) (mSetN i fe) := ⟨fun W tk m Hf ρ σ s H D hen R h => ws_of (ps_set hN hi hx pe_W hs hf) (he.run W tk m Hf ρ σ s H _ hen R (PostS.bind hen h fun d s1 m1 Hf1 H1 v e1 e2 R1 r1 h1 =>
  h1.nx' R1 ((hen.mono e1 e2).set r1)))⟩
theorem js_asg {vs : List Nat} {gt : MG} (he : JE X e fe) (hg : JG X tg vs gt) (hs : swapsWithSole [tg] e pos.line X.env = pure false := by rfl) (hw : swappedStores [tg] e X.env = pure none := by rfl)
    (h1 : (assignEach [tg] X.env).map (·.2) = [assign tg X.env] := by rfl) : JS X (.Assign [tg] e pos) (mAsg fe gt) := ⟨fun W tk m Hf ρ σ s H D hen R h => ws_of (ps_asg pe_W pg_W hs hw h1) (he.run W tk m Hf ρ σ s H _ hen R (PostS.bind hen h fun d s1 m1 Hf1 H1 v e1 e2 R1 r1 h1 => by
  refine hg.run W tk m1 Hf1 ρ σ s1 H1 d v _ (hen.mono e1 e2) R1 r1 ?_
  cases hh : gt d ρ s1 with
  | ok ρ1 s2 =>
    rw [hh] at h1
    exact fun m2 Hf2 H2 σ2 e3 e4 R2 q2 => (PostS.mono e3 e4 h1).nx' R2 q2.1
  | ex c fs s2 => rw [hh] at h1; exact h1.elim
  | stuck => rw [hh] at h1; exact h1.elim))⟩
end
end Bw

namespace Bw
open PySem PySem.Spec PyProof.Rows L2

/-! ### what is walked -/
/-- J yields the items ds, as long as what is frozen and locked stays -/
structure Wk (K : PySem.W.Frag) (m : CM) (Hf : Hp) (J : It) (ds : List D) : Prop where
  go : ∀ i H, Same m.lk H → Same Hf H → i < ds.length → J.go i H
  stop : ∀ i H, Same m.lk H → Same Hf H → ds.length ≤ i → J.stop i H
  yld : ∀ (i : Nat) H x H' d, Same m.lk H → Same Hf H → J.yld i H x H' → ds[i]? = some d → (H' = H ∧ Rep K m Hf d x) ∨ ∃ p o, H p = none ∧ H' = upd H p o ∧ Rep K m (upd Hf p o) d x
def tWI (X : Cx) (tg iter : Expr) : TI := fun σ H R => ∀ pins s, Inv X pins σ H s → wpAny (model X.prog X.w) X.A (eval iter X.env) (fun v s1 => wpAny (model X.prog X.w) X.A (pyIter v) (fun itv s2 => PIE X pins σ tg R itv s2) X.xe s1) X.xe s
theorem pi_W {X : Cx} {tg iter : Expr} : PI X tg iter (tWI X tg iter) := ⟨fun pins s σ H R I h => h pins s I⟩
theorem wi_of {X : Cx} {tg iter : Expr} {wi : TI} {σ : L2.St} {H : Hp} {R : It → Hp → Prop} (p : PI X tg iter wi) (h : wi σ H R) : tWI X tg iter σ H R := fun pins s I => p.run pins s σ H R I h
abbrev MI := Env' → Sto → R (List D)
abbrev relI (K : PySem.W.Frag) : CM → Hp → List D → It → Prop := fun m Hf ds J => Wk K m Hf J ds
structure JI (X : Cx) (tg iter : Expr) (f : MI) : Prop where
  run : ∀ (W : WX), Takes X W → ∀ (m : CM) (Hf : Hp) (ρ : Env') (σ : L2.St) (s : Sto) (H : Hp) (Q : It → Hp → Prop), EnvOk X.K m Hf ρ σ → Rel X.K m Hf s H → Post X.K m Hf (relI X.K) Q (EW W σ) (f ρ s) → tWI X tg iter σ H Q
/-- a frozen list, or a locked one -/
def stillL (s : Sto) : D → Option (List D)
  | .node .lst ds => some ds
  | .node .sq ds => some ds
  | .cell l k => match s.get l k with
    | some (.lock .lst ds) => some ds
    | _ => none
  | _ => none
theorem stillL_ok {K : PySem.W.Frag} {m : CM} {Hf H : Hp} {s : Sto} {d : D} {v : V} {ds : List D} (R : Rel K m Hf s H) (r : Rep K m Hf d v) (h : stillL s d = some ds) :
    ∃ a vs, v = .ref a ∧ (∀ H', Same m.lk H' → Same Hf H' → SqL K H' a vs) ∧ RepL K m Hf ds vs := by
  unfold stillL at h
  cases d with
  | node t es =>
    cases t with
    | lst =>
      cases h
      unfold Rep at r
      obtain ⟨a, vs, h1, h2, h3⟩ := r
      exact ⟨a, vs, h1, fun H' _ e => SqL.of (e _ _ h2), h3⟩
    | sq =>
      cases h
      unfold Rep at r
      obtain ⟨a, vs, h1, h2, h3⟩ := r
      exact ⟨a, vs, h1, fun H' _ e => e.seq h2, h3⟩
    | _ => cases h
  | cell l k =>
    unfold Rep at r
    obtain ⟨a, h1, h2⟩ := r
    dsimp only at h
    cases e : s.get l k with
    | none => rw [e] at h; cases h
    | some c =>
      obtain ⟨a', q1, _, q2⟩ := R.cell l k c e
      rw [h1] at q1
      cases q1
      rw [e] at h
      cases c with
      | lock t es =>
        cases t with
        | lst =>
          cases h
          obtain ⟨_, _, vs, z4, z5⟩ := q2
          exact ⟨a, vs, h2, fun H' el _ => SqL.of (el _ _ z4), z5⟩
        | _ => cases h
      | live t es => cases h
      | dead => cases h
  | _ => cases h
def iList' (f : ME) : MI := fun ρ s => (f ρ s).bind fun d s1 => match stillL s1 d with
  | some ds => .ok ds s1
  | none => .stuck
/-- a tuple -/
def iTup' (f : ME) : MI := fun ρ s => (f ρ s).bind fun d s1 => match d with
  | .node .tup ds => .ok ds s1
  | _ => .stuck
def rangeD (lo : Int) : Nat → List D
  | 0 => []
  | n + 1 => .int lo :: rangeD (lo + 1) n
theorem rangeD_length (n : Nat) : ∀ lo, (rangeD lo n).length = n := by
  induction n with
  | zero => intro lo; rfl
  | succ n ih => intro lo; simp [rangeD, ih]
theorem rangeD_get (n : Nat) : ∀ (lo : Int) (i : Nat), i < n → (rangeD lo n)[i]? = some (.int (lo + i)) := by
  induction n with
  | zero => intro lo i h; omega
  | succ n ih =>
    intro lo i h
    cases i with
    | zero => simp [rangeD]
    | succ i =>
      simp only [rangeD, List.getElem?_cons_succ]
      rw [ih (lo + 1) i (by omega)]
      congr 2
      omega
def iRange1 (fa : MA) : MI := fun ρ s => (fa ρ s).bind fun ds s1 => match ds with
  | [.int j] => if -(2 ^ 62) ≤ j ∧ j < 2 ^ 62 then .ok (rangeD 0 j.toNat) s1 else .stuck
  | _ => .stuck
def iRange2 (fa : MA) : MI := fun ρ s => (fa ρ s).bind fun ds s1 => match ds with
  | [.int i, .int j] => if (-(2 ^ 62) ≤ i ∧ i < 2 ^ 62) ∧ -(2 ^ 62) ≤ j ∧ j < 2 ^ 62 then .ok (rangeD i (j - i).toNat) s1 else .stuck
  | _ => .stuck
def signsD (x : Str) : List D := x.cps.toList.map fun c => .str ⟨#[c]⟩
def iStr' (f : ME) : MI := fun ρ s => (f ρ s).bind fun d s1 => match d with
  | .str x => .ok (signsD x) s1
  | _ => .stuck
theorem wk_range {K : PySem.W.Frag} {m : CM} {Hf : Hp} {lo : Int} {n : Nat} : Wk K m Hf (Itr lo n) (rangeD lo n) := by
  refine ⟨fun i H _ _ h => ?_, fun i H _ _ h => ?_, fun i H x H' d _ _ h e => ?_⟩
  · rw [rangeD_length] at h; exact h
  · rw [rangeD_length] at h; exact h
  · obtain ⟨h1, h2⟩ := h
    have hl : i < n := by
      have := (List.getElem?_eq_some_iff.mp e).1
      rw [rangeD_length] at this; exact this
    rw [rangeD_get n lo i hl] at e
    cases e
    refine .inl ⟨h1, ?_⟩
    rw [h2]
    unfold Rep
    rfl
theorem wk_str {K : PySem.W.Frag} {m : CM} {Hf : Hp} {x : Str} : Wk K m Hf (Its x) (signsD x) := by
  have hl : (signsD x).length = x.cps.size := by simp [signsD]
  refine ⟨fun i H _ _ h => ?_, fun i H _ _ h => ?_, fun i H v H' d _ _ h e => ?_⟩
  · rw [hl] at h; exact h
  · rw [hl] at h; exact h
  · obtain ⟨h1, c, h2, h3⟩ := h
    refine .inl ⟨h1, ?_⟩
    unfold signsD at e
    rw [List.getElem?_map, Array.getElem?_toList, h2] at e
    cases e
    rw [h3]
    unfold Rep
    rfl
theorem wk_list {K : PySem.W.Frag} {m : CM} {Hf H0 : Hp} {a : Addr} {ds : List D} {vs : List V} (X : Cx) (hK : X.K = K) (inj : ∀ H xs ys, SqL K H a xs → SqL K H a ys → xs = ys) (h : ∀ H', Same m.lk H' → Same Hf H' → SqL K H' a vs) (r : RepL K m Hf ds vs) : Wk K m Hf (Itl K a) ds := by
  have hl := r.length
  refine ⟨fun i H el eh hi => ?_, fun i H el eh hi => ?_, fun i H x H' d el eh hy e => ?_⟩
  · have hi' : i < vs.length := by omega
    exact ⟨vs, vs[i], h H el eh, by simp [hi']⟩
  · exact ⟨vs, h H el eh, by omega⟩
  · obtain ⟨h1, h2⟩ := hy
    obtain ⟨v, q1, q2⟩ := r.get e
    have q3 := h2 vs (h H el eh)
    rw [q1] at q3
    cases q3
    exact .inl ⟨h1, q2⟩
section
variable {X : Cx} {tg e a b : Expr} {f : ME} {fa : MA} {p pos : Pos}
theorem wk_list' {K : PySem.W.Frag} {m : CM} {Hf : Hp} {a : Addr} {ds : List D} {vs : List V} (h : ∀ H', Same m.lk H' → Same Hf H' → SqL K H' a vs) (r : RepL K m Hf ds vs) : Wk K m Hf (Itl K a) ds := by
  have hl := r.length
  refine ⟨fun i H el eh hi => ?_, fun i H el eh hi => ?_, fun i H x H' d el eh hy e => ?_⟩
  · have hi' : i < vs.length := by omega
    exact ⟨vs, vs[i], h H el eh, by simp [hi']⟩
  · exact ⟨vs, h H el eh, by omega⟩
  · obtain ⟨h1, h2⟩ := hy
    obtain ⟨v, q1, q2⟩ := r.get e
    have q3 := h2 vs (h H el eh)
    rw [q1] at q3
    cases q3
    exact .inl ⟨h1, q2⟩
theorem ji_list (he : JE X e f) : JI X tg e (iList' f) := ⟨fun W tk m Hf ρ σ s H Q hen R h =>
  wi_of (pi_list pe_W) (he.run W tk m Hf ρ σ s H _ hen R (Post.bind h fun d s1 m1 Hf1 H1 v e1 e2 R1 r1 h1 => by
    cases hs : stillL s1 d with
    | none => rw [hs] at h1; exact h1.elim
    | some ds =>
      rw [hs] at h1
      obtain ⟨a, vs, rfl, q1, q2⟩ := stillL_ok R1 r1 hs
      exact ⟨a, rfl, ⟨vs, q1 H1 R1.lk R1.same⟩, h1.ok R1 (wk_list' q1 q2)⟩))⟩
theorem ji_tup (he : JE X e f) : JI X tg e (iTup' f) := ⟨fun W tk m Hf ρ σ s H Q hen R h =>
  wi_of (pi_tup pe_W) (he.run W tk m Hf ρ σ s H _ hen R (Post.bind h fun d s1 m1 Hf1 H1 v e1 e2 R1 r1 h1 => by
    cases d with
    | node t ds =>
      cases t with
      | tup =>
        unfold Rep at r1
        obtain ⟨a, vs, rfl, q1, q2⟩ := r1
        have hl := q2.length
        refine ⟨a, rfl, ⟨vs, sameT R1.same q1⟩, h1.ok R1 ⟨fun i H el eh hi => ?_, fun i H el eh hi => ?_, fun i H x H' d el eh hy e => ?_⟩⟩
        · have hi' : i < vs.length := by omega
          exact ⟨vs, vs[i], sameT eh q1, by simp [hi']⟩
        · exact ⟨vs, sameT eh q1, by omega⟩
        · obtain ⟨h1, h2⟩ := hy
          obtain ⟨v, w1, w2⟩ := q2.get e
          have w3 := h2 vs (sameT eh q1)
          rw [w1] at w3
          cases w3
          exact .inl ⟨h1, w2⟩
      | _ => exact h1.elim
    | _ => exact h1.elim))⟩
theorem ji_range1 (hg : Gl X "range") (hm : X.mg "range" = none) (ha : JA X [a] fa) (hs : starEach [a] X.env = [(false, eval a X.env)] := by rfl) : JI X tg (.Call (.Name "range" p) [a] [] pos) (iRange1 fa) := ⟨fun W tk m Hf ρ σ s H Q hen R h =>
  wi_of (pi_range1 hg hm pa_W hs) (ha.run W tk m Hf ρ σ s H _ hen R (Post.bind h fun ds s1 m1 Hf1 H1 vs e1 e2 R1 r1 h1 => by
    match ds, h1 with
    | [.int j], h1 =>
      obtain ⟨v, r, rfl, r1, r2⟩ := r1.consI
      rw [r2.nilI]
      unfold Rep at r1
      dsimp only at h1
      split at h1
      · rename_i hb
        exact ⟨j, by rw [r1], hb.1, hb.2, h1.ok R1 wk_range⟩
      · exact h1.elim))⟩
theorem ji_range2 (hg : Gl X "range") (hm : X.mg "range" = none) (ha : JA X [a, b] fa) (hs : starEach [a, b] X.env = [(false, eval a X.env), (false, eval b X.env)] := by rfl) (hs2 : starEach [b] X.env = [(false, eval b X.env)] := by rfl) : JI X tg (.Call (.Name "range" p) [a, b] [] pos) (iRange2 fa) := ⟨fun W tk m Hf ρ σ s H Q hen R h =>
  wi_of (pi_range2 hg hm pa_W hs hs2) (ha.run W tk m Hf ρ σ s H _ hen R (Post.bind h fun ds s1 m1 Hf1 H1 vs e1 e2 R1 r1 h1 => by
    match ds, h1 with
    | [.int i, .int j], h1 =>
      obtain ⟨v, r, rfl, q1, r2⟩ := r1.consI
      obtain ⟨v', r', rfl, r3, r4⟩ := r2.consI
      rw [r4.nilI]
      unfold Rep at q1 r3
      dsimp only at h1
      split at h1
      · rename_i hb
        exact ⟨i, j, by rw [q1, r3], ⟨hb.1.1, hb.1.2, hb.2.1, hb.2.2⟩, h1.ok R1 wk_range⟩
      · exact h1.elim))⟩
theorem ji_str (he : JE X e f) : JI X tg e (iStr' f) := ⟨fun W tk m Hf ρ σ s H Q hen R h =>
  wi_of (pi_str pe_W) (he.run W tk m Hf ρ σ s H _ hen R (Post.bind h fun d s1 m1 Hf1 H1 v e1 e2 R1 r1 h1 => by
    cases d with
    | str x =>
      unfold Rep at r1
      exact ⟨x, r1, h1.ok R1 wk_str⟩
    | _ => exact h1.elim))⟩
end

/-! ### for -/
def forL (gt : MG) (body : MS) : List D → MS
  | [], ρ, s => .nx ρ s
  | d :: ds, ρ, s => bindS (noEx (gt d ρ s)) ρ fun ρ1 s1 => match body ρ1 s1 with
    | .nx ρ2 s2 => forL gt body ds ρ2 s2
    | .ct ρ2 s2 => forL gt body ds ρ2 s2
    | .bk ρ2 s2 => .nx ρ2 s2
    | r => r
def mFor (fi : MI) (gt : MG) (body : MS) : MS := fun ρ s => bindS (fi ρ s) ρ fun ds s1 => forL gt body ds ρ s1
theorem Wk.mono {K : PySem.W.Frag} {m m' : CM} {Hf Hf' : Hp} {J : It} {ds : List D} (em : AExt m m') (el : Same m.lk m'.lk) (eh : Same Hf Hf') (w : Wk K m Hf J ds) : Wk K m' Hf' J ds := by
  refine ⟨fun i H h1 h2 hi => w.go i H (el.trans h1) (eh.trans h2) hi, fun i H h1 h2 hi => w.stop i H (el.trans h1) (eh.trans h2) hi, fun i H x H' d h1 h2 hy e => ?_⟩
  rcases w.yld i H x H' d (el.trans h1) (eh.trans h2) hy e with ⟨q1, q2⟩ | ⟨p, o, q0, q1, q2⟩
  · exact .inl ⟨q1, q2.monoA em eh⟩
  · exact .inr ⟨p, o, q0, q1, q2.monoA em (Same.upd2 eh)⟩
section
variable {X : Cx} {pos : Pos} {tg iter : Expr} {body : List Stmt} {vs : List Nat} {fi : MI} {gt : MG} {fb : MS}
theorem js_for (hp : PassesOwn (model X.prog X.w) X.A X.env X.xe) (hc : X.calm = true) (hi : JI X tg iter fi) (hg : JG X tg vs gt) (hb : JSs X body fb) (hs : ∀ x, foldedSetIterable iter X.env x = pure x := by intro _; rfl) : JS X (.For tg iter body [] pos) (mFor fi gt fb) := ⟨fun W tk m Hf ρ σ s H D hen R h =>
  ws_of (ps_for hp hc pi_W pg_W pss_W hs) (hi.run W tk m Hf ρ σ s H _ hen R (PostS.bind hen h fun ds s1 m1 Hf1 H1 J e1 e2 R1 wk h1 => by
    refine ⟨fun i mm σ H => mm = ds.length - i ∧ i ≤ ds.length ∧ ∃ (mi : CM) (Hfi : Hp) (ρi : Env') (si : Sto), MExt m1 mi ∧ Same Hf1 Hfi ∧ Rel X.K mi Hfi si H ∧ EnvOk X.K mi Hfi ρi σ ∧ PostS X.K mi Hfi D W (forL gt fb (ds.drop i) ρi si),
      ⟨ds.length, by simp, Nat.zero_le _, m1, Hf1, ρ, s1, MExt.refl _, Same.refl _, R1, hen.mono e1 e2, by simpa using h1⟩, ?_⟩
    rintro i mm σi Hi ⟨rfl, hi', mi, Hfi, ρi, si, em, eh, Ri, hei, hpi⟩
    have wki : Wk X.K mi Hfi J ds := wk.mono em.at_ (by rw [em.lk]; exact Same.refl _) eh
    by_cases hlt : i < ds.length
    · obtain ⟨N, hN⟩ : ∃ N : L2.St → Hp → Prop, N = fun σ' H' => ∃ (mj : CM) (Hfj : Hp) (ρj : Env') (sj : Sto), MExt m1 mj ∧ Same Hf1 Hfj ∧ Rel X.K mj Hfj sj H' ∧ EnvOk X.K mj Hfj ρj σ' ∧ PostS X.K mj Hfj D W (forL gt fb (ds.drop (i + 1)) ρj sj) := ⟨_, rfl⟩
      refine .inr ⟨wki.go i Hi Ri.lk Ri.same hlt, N, fun σ' H' q => ⟨ds.length - (i + 1), by omega, rfl, hlt, by rw [hN] at q; exact q⟩, fun x H' hy => ?_⟩
      have hd : ds[i]? = some ds[i] := by simp [hlt]
      have hdrop : ds.drop i = ds[i] :: ds.drop (i + 1) := List.drop_eq_getElem_cons hlt
      rw [hdrop] at hpi
      have main : ∀ (Hfk : Hp) (Hk : Hp), Same Hfi Hfk → Rel X.K mi Hfk si Hk → Rep X.K mi Hfk ds[i] x → tWG X tg x σi Hk fun σ2 H2 => tWSs X body { D with nx := N, ct := N, bk := D.nx } σ2 H2 := by
        intro Hfk Hk ek Rk rk
        have hpk := PostS.mono (MExt.refl _) ek hpi
        have hek := hei.mono (MExt.refl _) ek
        refine hg.run W tk mi Hfk ρi σi si Hk ds[i] x _ hek Rk rk ?_
        unfold forL at hpk
        cases hh : gt ds[i] ρi si with
        | ex c fs s2 => rw [hh] at hpk; exact hpk.elim
        | stuck => rw [hh] at hpk; exact hpk.elim
        | ok ρ1 s2 =>
          rw [hh] at hpk
          intro m2 Hf2 H2 σ2 e3 e4 R2 q2
          have hp2 := PostS.mono e3 e4 hpk
          refine hb.run W tk m2 Hf2 ρ1 σ2 s2 H2 _ q2.1 R2 ?_
          simp only [noEx_ok, bindS_ok] at hp2
          cases hbd : fb ρ1 s2 with
          | nx ρ3 s3 =>
            rw [hbd] at hp2
            exact fun m3 Hf3 H3 σ3 e5 e6 R3 he3 => by rw [hN]; exact ⟨m3, Hf3, ρ3, s3, (em.trans e3).trans e5, ((eh.trans ek).trans e4).trans e6, R3, he3, PostS.mono e5 e6 hp2⟩
          | ct ρ3 s3 =>
            rw [hbd] at hp2
            exact fun m3 Hf3 H3 σ3 e5 e6 R3 he3 => by rw [hN]; exact ⟨m3, Hf3, ρ3, s3, (em.trans e3).trans e5, ((eh.trans ek).trans e4).trans e6, R3, he3, PostS.mono e5 e6 hp2⟩
          | bk ρ3 s3 => rw [hbd] at hp2; exact hp2
          | rt d s3 => rw [hbd] at hp2; exact hp2
          | ex ρ3 c fs s3 => rw [hbd] at hp2; exact hp2
          | stuck => rw [hbd] at hp2; exact hp2
      rcases wki.yld i Hi x H' ds[i] Ri.lk Ri.same hy hd with ⟨rfl, q2⟩ | ⟨p, o, q0, rfl, q2⟩
      · exact main Hfi H' (Same.refl _) Ri q2
      · obtain ⟨ek, Rk⟩ := Ri.new (o := o) q0
        exact main _ _ ek Rk q2
    · have e : i = ds.length := by omega
      subst e
      refine .inl ⟨wki.stop _ Hi Ri.lk Ri.same (Nat.le_refl _), ?_⟩
      rw [List.drop_length] at hpi
      exact hpi.nx' Ri hei))⟩
end

/-! ### while -/
def whileL (t : MT) (body : MS) : Nat → MS
  | 0, _, _ => .stuck
  | n + 1, ρ, s => bindS (t ρ s) ρ fun b s1 => if b then match body ρ s1 with
      | .nx ρ2 s2 => whileL t body n ρ2 s2
      | .ct ρ2 s2 => whileL t body n ρ2 s2
      | .bk ρ2 s2 => .nx ρ2 s2
      | r => r
    else .nx ρ s1
/-- so many turns as fu says, at most -/
def mWhile (fu : Env' → Sto → Nat) (t : MT) (body : MS) : MS := fun ρ s => whileL t body (fu ρ s) ρ s
section
variable {X : Cx} {pos : Pos} {c : Expr} {body : List Stmt} {t : MT} {fb : MS}
theorem js_while (fu : Env' → Sto → Nat) (hp : PassesOwn (model X.prog X.w) X.A X.env X.xe) (hc : JT X c t) (hb : JSs X body fb) : JS X (.While c body [] pos) (mWhile fu t fb) := ⟨fun W tk m Hf ρ σ s H D hen R h =>
  ws_of (ps_while hp pt_W pss_W) (by
    refine ⟨fun mm σ H => ∃ (mi : CM) (Hfi : Hp) (ρi : Env') (si : Sto), Rel X.K mi Hfi si H ∧ EnvOk X.K mi Hfi ρi σ ∧ PostS X.K mi Hfi D W (whileL t fb mm ρi si), ⟨fu ρ s, m, Hf, ρ, s, R, hen, h⟩, ?_⟩
    rintro mm σi Hi ⟨mi, Hfi, ρi, si, Ri, hei, hpi⟩
    cases mm with
    | zero => exact hpi.elim
    | succ n =>
      unfold whileL at hpi
      refine hc.run W tk mi Hfi ρi σi si Hi _ hei Ri (PostS.bind hei hpi fun b s1 m1 Hf1 H1 v e1 e2 R1 r1 h1 => ?_)
      subst r1
      cases b with
      | false =>
        rw [if_neg Bool.false_ne_true] at h1 ⊢
        exact h1.nx' R1 (hei.mono e1 e2)
      | true =>
        rw [if_pos rfl] at h1 ⊢
        refine ⟨fun σ' H' => ∃ (mj : CM) (Hfj : Hp) (ρj : Env') (sj : Sto), Rel X.K mj Hfj sj H' ∧ EnvOk X.K mj Hfj ρj σ' ∧ PostS X.K mj Hfj D W (whileL t fb n ρj sj), fun σ' H' q => ⟨n, Nat.lt_succ_self _, q⟩, ?_⟩
        refine hb.run W tk m1 Hf1 ρi σi s1 H1 _ (hei.mono e1 e2) R1 ?_
        cases hbd : fb ρi s1 with
        | nx ρ3 s3 =>
          rw [hbd] at h1
          exact fun m3 Hf3 H3 σ3 e5 e6 R3 he3 => ⟨m3, Hf3, ρ3, s3, R3, he3, PostS.mono e5 e6 h1⟩
        | ct ρ3 s3 =>
          rw [hbd] at h1
          exact fun m3 Hf3 H3 σ3 e5 e6 R3 he3 => ⟨m3, Hf3, ρ3, s3, R3, he3, PostS.mono e5 e6 h1⟩
        | bk ρ3 s3 => rw [hbd] at h1; exact h1
        | rt d s3 => rw [hbd] at h1; exact h1
        | ex ρ3 c fs s3 => rw [hbd] at h1; exact h1
        | stuck => rw [hbd] at h1; exact h1)⟩
end
end Bw

namespace Bw
open PySem PySem.Spec PyProof.Rows L2

/-! ### cells that come and go -/
namespace Sto
variable {s : Sto} {l k : Nat} {c c' : CE}
theorem get_alloc : (s.alloc c').get l k = if l = s.out.length ∧ k = s.loc.length then some c' else s.get l k := by
  unfold alloc get
  by_cases e : l = s.out.length
  · simp only [if_pos e]
    by_cases e2 : k = s.loc.length
    · subst e2; simp [e]
    · simp only [e, e2, and_false, if_false]
      by_cases h : k < s.loc.length
      · rw [List.getElem?_append_left h]
      · rw [List.getElem?_eq_none (by simp; omega), List.getElem?_eq_none (by omega)]
  · simp [e]
theorem get_new : s.get s.out.length s.loc.length = none := by
  unfold get
  simp
end Sto
theorem RepL.le {K : PySem.W.Frag} {m : CM} {Hf H : Hp} {s : Sto} (R : Rel K m Hf s H) : ∀ {ds : List D} {vs : List V}, RepL K m Hf ds vs → D.leL s.out.length ds = true := by
  have key : ∀ (n : Nat), (∀ {d : D} {v : V}, sizeOf d < n → Rep K m Hf d v → d.le s.out.length = true) ∧ (∀ {ds : List D} {vs : List V}, sizeOf ds < n → RepL K m Hf ds vs → D.leL s.out.length ds = true) := by
    intro n
    induction n with
    | zero => exact ⟨fun h => absurd h (Nat.not_lt_zero _), fun h => absurd h (Nat.not_lt_zero _)⟩
    | succ n ih =>
      refine ⟨fun {d v} hn r => ?_, fun {ds vs} hn r => ?_⟩
      · cases d with
        | node t ds =>
          unfold Rep at r
          obtain ⟨a, vs, _, _, h3⟩ := r
          unfold D.le
          exact ih.2 (by simp at hn ⊢; omega) h3
        | cell l k =>
          unfold Rep at r
          obtain ⟨a, h1, _⟩ := r
          obtain ⟨c, hc⟩ := R.dom l k a h1
          unfold D.le
          exact decide_eq_true (Sto.get_lvl hc)
        | _ => unfold D.le; rfl
      · cases ds with
        | nil => unfold D.leL; rfl
        | cons d ds =>
          obtain ⟨v, q, rfl, h1, h2⟩ := r.consI
          unfold D.leL
          rw [ih.1 (by simp at hn ⊢; omega) h1, ih.2 (by simp at hn ⊢; omega) h2]
          rfl
  intro ds vs r
  exact (key (sizeOf ds + 1)).2 (Nat.lt_succ_self _) r
theorem Rep.leV {K : PySem.W.Frag} {m : CM} {Hf H : Hp} {s : Sto} (R : Rel K m Hf s H) {d : D} {v : V} (r : Rep K m Hf d v) : d.le s.out.length = true := by
  have h := RepL.le R (RepL.cons r RepL.nil)
  unfold D.leL at h
  rw [Bool.and_eq_true] at h
  exact h.1
/-- a new cell -/
theorem Rel.alloc {K : PySem.W.Frag} {m : CM} {Hf H : Hp} {s : Sto} {p : Addr} {o : HO} {t : Tag} {ds : List D} {vs : List V} (R : Rel K m Hf s H) (hp : H p = none) (hl : LvN K (upd H p o) p t vs) (r : RepL K m Hf ds vs) :
    ∃ m', MExt m m' ∧ m'.at_ s.out.length s.loc.length = some p ∧ Rel K m' Hf (s.alloc (.live t ds)) (upd H p o) := by
  obtain ⟨h1, h2, h3⟩ := R.frees hp
  have nn : m.at_ s.out.length s.loc.length = none := by
    cases e : m.at_ s.out.length s.loc.length with
    | none => rfl
    | some a =>
      obtain ⟨c, hc⟩ := R.dom _ _ _ e
      rw [Sto.get_new] at hc
      cases hc
  let m' : CM := ⟨fun l k => if l = s.out.length ∧ k = s.loc.length then some p else m.at_ l k, m.lk⟩
  have em : MExt m m' := ⟨fun l k a e => (show (if l = s.out.length ∧ k = s.loc.length then some p else m.at_ l k) = some a from by
    rw [if_neg]
    · exact e
    · rintro ⟨rfl, rfl⟩
      rw [nn] at e
      cases e), (rfl : m.lk = m.lk), fun l k a e => by
    have e' : (if l = s.out.length ∧ k = s.loc.length then some p else m.at_ l k) = some a := e
    by_cases h : l = s.out.length ∧ k = s.loc.length
    · rw [if_pos h] at e'; cases e'; exact .inr h2
    · rw [if_neg h] at e'; exact .inl e'⟩
  have hat : ∀ l k, m'.at_ l k = if l = s.out.length ∧ k = s.loc.length then some p else m.at_ l k := fun _ _ => rfl
  refine ⟨m', em, by rw [hat, if_pos ⟨rfl, rfl⟩], Same.updR R.same h1, Same.updR R.lk h2, R.ldj, fun l k c e => ?_, fun l k a e => ?_, fun l k l' k' a e1 e2 => ?_⟩
  · rw [Sto.get_alloc] at e
    rw [hat]
    by_cases h : l = s.out.length ∧ k = s.loc.length
    · rw [if_pos h] at e ⊢
      cases e
      refine ⟨p, rfl, ⟨o, upd_same⟩, h1, h2, ?_, vs, hl, r.mono em (Same.refl _)⟩
      rw [h.1]
      exact RepL.le R r
    · rw [if_neg h] at e ⊢
      obtain ⟨a, q1, ⟨u, q2⟩, q3⟩ := R.cell l k c e
      have na := h3 l k a q1
      refine ⟨a, q1, ⟨u, by rw [upd_ne na]; exact q2⟩, ?_⟩
      cases c with
      | live t2 ds2 =>
        obtain ⟨y1, y2, y3, vs2, y4, y5⟩ := q3
        exact ⟨y1, y2, y3, vs2, y4.at_ (upd_ne na), y5.mono em (Same.refl _)⟩
      | lock t2 ds2 =>
        obtain ⟨y1, y3, vs2, y4, y5⟩ := q3
        exact ⟨y1, y3, vs2, y4, y5.mono em (Same.refl _)⟩
      | dead => trivial
  · rw [hat] at e
    rw [Sto.get_alloc]
    by_cases h : l = s.out.length ∧ k = s.loc.length
    · exact ⟨_, if_pos h⟩
    · rw [if_neg h] at e ⊢
      exact R.dom l k a e
  · rw [hat] at e1 e2
    by_cases h : l = s.out.length ∧ k = s.loc.length
    · by_cases h' : l' = s.out.length ∧ k' = s.loc.length
      · exact ⟨h.1.trans h'.1.symm, h.2.trans h'.2.symm⟩
      · rw [if_pos h] at e1
        rw [if_neg h'] at e2
        cases e1
        exact absurd rfl (h3 _ _ _ e2)
    · by_cases h' : l' = s.out.length ∧ k' = s.loc.length
      · rw [if_neg h] at e1
        rw [if_pos h'] at e2
        cases e2
        exact absurd rfl (h3 _ _ _ e1)
      · rw [if_neg h] at e1
        rw [if_neg h'] at e2
        exact R.inj l k l' k' a e1 e2
/-- a new list cell comes back -/
theorem Post.newCL {K : PySem.W.Frag} {m : CM} {Hf H : Hp} {s : Sto} {E : XK} {Q : VK} {ds : List D} {vs : List V} (R : Rel K m Hf s H) (h : RepL K m Hf ds vs) (q : Post K m Hf (Rep K) Q E (.ok (.cell s.out.length s.loc.length) (s.alloc (.live .lst ds)))) : ∀ p, H p = none → Q (.ref p) (upd H p (.lst vs)) := fun p hp => by
  obtain ⟨m', em, hm, R'⟩ := R.alloc (o := .lst vs) (t := .lst) hp upd_same h
  exact q m' _ _ _ em (Same.refl _) R' (by unfold Rep; exact ⟨p, hm, rfl⟩)

/-! ### displays -/
def mTup (fa : MA) : ME := fun ρ s => (fa ρ s).bind fun ds s1 => if ds.length ≤ 1000000 then .ok (.node .tup ds) s1 else .stuck
def mLst (fa : MA) : ME := fun ρ s => (fa ρ s).bind fun ds s1 => if ds.length ≤ 1000000 then .ok (.node .lst ds) s1 else .stuck
/-- .. as a cell -/
def mLstC (fa : MA) : ME := fun ρ s => (fa ρ s).bind fun ds s1 => if ds.length ≤ 1000000 then .ok (.cell s1.out.length s1.loc.length) (s1.alloc (.live .lst ds)) else .stuck
section
variable {X : Cx} {pos : Pos} {es : List Expr} {fa : MA}
theorem je_tup {k : Nat} (ha : JA X es fa) : JE X (.Tuple es k pos) (mTup fa) := ⟨fun W tk m Hf ρ σ s H Q hen R h =>
  we_of (pe_tup pa_W) (ha.run W tk m Hf ρ σ s H _ hen R (Post.bind h fun ds s1 m1 Hf1 H1 vs e1 e2 R1 r1 h1 => by
    split at h1
    · rename_i hl
      exact ⟨line_big (by rw [r1.length]; exact hl), Post.newT R1 r1 h1⟩
    · exact h1.elim))⟩
theorem je_lst (ha : JA X es fa) : JE X (.List es pos) (mLst fa) := ⟨fun W tk m Hf ρ σ s H Q hen R h =>
  we_of (pe_lst pa_W) (ha.run W tk m Hf ρ σ s H _ hen R (Post.bind h fun ds s1 m1 Hf1 H1 vs e1 e2 R1 r1 h1 => by
    split at h1
    · rename_i hl
      exact ⟨line_big (by rw [r1.length]; exact hl), Post.newL R1 r1 h1⟩
    · exact h1.elim))⟩
theorem je_lstC (ha : JA X es fa) : JE X (.List es pos) (mLstC fa) := ⟨fun W tk m Hf ρ σ s H Q hen R h =>
  we_of (pe_lst pa_W) (ha.run W tk m Hf ρ σ s H _ hen R (Post.bind h fun ds s1 m1 Hf1 H1 vs e1 e2 R1 r1 h1 => by
    split at h1
    · rename_i hl
      exact ⟨line_big (by rw [r1.length]; exact hl), Post.newCL R1 r1 h1⟩
    · exact h1.elim))⟩
end

/-! ### comprehensions -/
def compL (ft : MG) (tt : MT) (f : ME) (ρ : Env') : List D → Sto → R (List D)
  | [], s => .ok [] s
  | d :: ds, s => (noEx (ft d ρ s)).bind fun ρ1 s1 => (noEx (tt ρ1 s1)).bind fun b s2 => if b then (noEx (f ρ1 s2)).bind fun x s3 => (compL ft tt f ρ ds s3).bind fun xs s4 => .ok (x :: xs) s4 else compL ft tt f ρ ds s2
def wipeE (ρ : Env') : List Nat → Env'
  | [] => ρ
  | v :: vs => (wipeE ρ vs).set v none
def mLcI (fi : MI) (ft : MG) (tt : MT) (f : ME) (vs : List Nat) : Env' → Sto → R (List D) := fun ρ s => (fi ρ s).bind fun ds s1 => if ds.length ≤ 1000000 then compL ft tt f (wipeE ρ vs) ds s1 else .stuck
def mLc (fi : MI) (ft : MG) (tt : MT) (f : ME) (vs : List Nat) : ME := fun ρ s => (mLcI fi ft tt f vs ρ s).bind fun xs s1 => .ok (.node .lst xs) s1
def mLcC (fi : MI) (ft : MG) (tt : MT) (f : ME) (vs : List Nat) : ME := fun ρ s => (mLcI fi ft tt f vs ρ s).bind fun xs s1 => .ok (.cell s1.out.length s1.loc.length) (s1.alloc (.live .lst xs))
theorem EnvOk.wipe {K : PySem.W.Frag} {m : CM} {Hf : Hp} {ρ : Env'} {σ : L2.St} (h : EnvOk K m Hf ρ σ) : ∀ vs, EnvOk K m Hf (wipeE ρ vs) (wipe σ vs)
  | [] => h
  | v :: vs => by
    unfold wipeE L2.wipe
    exact (EnvOk.wipe h vs).unset
/-- a clause's tests -/
structure JTs (X : Cx) (ifs : List Expr) (f : MT) : Prop where
  run : ∀ (W : WX), Takes X W → ∀ (m : CM) (Hf : Hp) (ρ : Env') (σ : L2.St) (s : Sto) (H : Hp) (Q : Bool → Hp → Prop), EnvOk X.K m Hf ρ σ → Rel X.K m Hf s H → Post X.K m Hf relB Q (EW W σ) (f ρ s) →
    ∀ pins s', Inv X pins σ H s' → wpAny (model X.prog X.w) X.A (forIn ifs true fun c r => if r = true then do let ok ← isTrue c X.env (eval c X.env); pure (ForInStep.yield ok) else pure (ForInStep.yield r)) (TP X pins σ Q) X.xe s'
def mYes : MT := fun _ s => .ok true s
theorem jts_nil {X : Cx} : JTs X [] mYes := ⟨fun W tk m Hf ρ σ s H Q he R h pins s' I => pts_nil.run pins s' σ H Q I (h.ok R rfl)⟩
theorem jts_one {X : Cx} {c : Expr} {f : MT} (h : JT X c f) : JTs X [c] f := ⟨fun W tk m Hf ρ σ s H Q he R hp pins s' I => (pts_one pt_W).run pins s' σ H Q I (h.run W tk m Hf ρ σ s H Q he R hp)⟩
def tWTs (X : Cx) (ifs : List Expr) : TT := fun σ H Q => ∀ pins s', Inv X pins σ H s' → wpAny (model X.prog X.w) X.A (forIn ifs true fun c r => if r = true then do let ok ← isTrue c X.env (eval c X.env); pure (ForInStep.yield ok) else pure (ForInStep.yield r)) (TP X pins σ Q) X.xe s'
theorem pts_W {X : Cx} {ifs : List Expr} : PTs X ifs (tWTs X ifs) := ⟨fun pins s σ H Q I h => h pins s I⟩
/-! the block's own list, tracked while it grows -/
section
variable {K : PySem.W.Frag} {m : CM} {Hf H : Hp} {s : Sto} {p : Addr} {lk : Hp} {o o' : HO}
theorem Rel.lockNew (R : Rel K m Hf s H) (hp : H p = none) : Rel K ⟨m.at_, upd m.lk p o⟩ Hf s (upd H p o) := by
  obtain ⟨h1, h2, h3⟩ := R.frees hp
  refine ⟨Same.updR R.same h1, Same.upd2 R.lk, fun a u e => ?_, fun l k c e => ?_, R.dom, R.inj⟩
  · by_cases ha : a = p
    · rw [ha]; exact h1
    · have e' : upd m.lk p o a = some u := e
      rw [upd_ne ha] at e'
      exact R.ldj a u e'
  · obtain ⟨a, q1, ⟨u, q2⟩, q3⟩ := R.cell l k c e
    have na := h3 l k a q1
    refine ⟨a, q1, ⟨u, by rw [upd_ne na]; exact q2⟩, ?_⟩
    cases c with
    | live t2 ds2 =>
      obtain ⟨y1, y2, y3, vs2, y4, y5⟩ := q3
      exact ⟨y1, by show upd m.lk p o a = none; rw [upd_ne na]; exact y2, y3, vs2, y4.at_ (upd_ne na), y5.atEq⟩
    | lock t2 ds2 =>
      obtain ⟨y1, y3, vs2, y4, y5⟩ := q3
      exact ⟨y1, y3, vs2, y4.sub (Same.upd h2), y5.atEq⟩
    | dead => trivial
theorem Rel.relock {at_ : Nat → Nat → Option Addr} (R : Rel K ⟨at_, upd lk p o⟩ Hf s H) (hl : lk p = none) (hc : ∀ l k, at_ l k ≠ some p) : Rel K ⟨at_, upd lk p o'⟩ Hf s (upd H p o') := by
  have h1 : Hf p = none := R.ldj p o upd_same
  refine ⟨Same.updR R.same h1, fun a u e => ?_, fun a u e => ?_, fun l k c e => ?_, R.dom, R.inj⟩
  · have e' : upd lk p o' a = some u := e
    by_cases ha : a = p
    · subst ha; rw [upd_same] at e' ⊢; exact e'
    · rw [upd_ne ha] at e' ⊢
      exact R.lk a u (by show upd lk p o a = some u; rw [upd_ne ha]; exact e')
  · by_cases ha : a = p
    · rw [ha]; exact h1
    · have e' : upd lk p o' a = some u := e
      rw [upd_ne ha] at e'
      exact R.ldj a u (by show upd lk p o a = some u; rw [upd_ne ha]; exact e')
  · obtain ⟨a, q1, ⟨u, q2⟩, q3⟩ := R.cell l k c e
    have na : a ≠ p := fun z => hc l k (by rw [← z]; exact q1)
    refine ⟨a, q1, ⟨u, by rw [upd_ne na]; exact q2⟩, ?_⟩
    have lkne : ∀ b, b ≠ p → upd lk p o b = upd lk p o' b := fun b hb => by rw [upd_ne hb, upd_ne hb]
    cases c with
    | live t2 ds2 =>
      obtain ⟨y1, y2, y3, vs2, y4, y5⟩ := q3
      exact ⟨y1, by show upd lk p o' a = none; rw [← lkne a na]; exact y2, y3, vs2, y4.at_ (upd_ne na), y5.atEq⟩
    | lock t2 ds2 =>
      obtain ⟨y1, y3, vs2, y4, y5⟩ := q3
      refine ⟨y1, y3, vs2, ?_, y5.atEq⟩
      have y4' : LkN (upd lk p o) a t2 vs2 := y4
      show LkN (upd lk p o') a t2 vs2
      cases t2 with
      | lst => exact (lkne a na).symm.trans y4'
      | sq => exact y4'
      | tup => exact y4'
      | dK ks => obtain ⟨z1, w, z2⟩ := y4'; exact ⟨z1, w, (lkne a na).symm.trans z2⟩
      | dT ks => obtain ⟨z1, w, z2⟩ := y4'; exact ⟨z1, w, (lkne a na).symm.trans z2⟩
      | ins c fs => exact y4'
    | dead => trivial
/-- p taken out of sight -/
def gone (H : Hp) (p : Addr) : Hp := fun b => if b = p then none else H b
theorem gone_same {H : Hp} {p : Addr} : gone H p p = none := by unfold gone; rw [if_pos rfl]
theorem gone_ne {H : Hp} {p b : Addr} (h : b ≠ p) : gone H p b = H b := by unfold gone; rw [if_neg h]
theorem gone_upd {H : Hp} {p : Addr} {o : HO} (h : H p = some o) : upd (gone H p) p o = H := by
  funext b
  by_cases hb : b = p
  · subst hb; rw [upd_same, h]
  · rw [upd_ne hb, gone_ne hb]
theorem Rel.unlock {at_ : Nat → Nat → Option Addr} (R : Rel K ⟨at_, upd lk p o⟩ Hf s H) (hl : lk p = none) (hc : ∀ l k, at_ l k ≠ some p) : Rel K ⟨at_, lk⟩ Hf s (gone H p) := by
  have h1 : Hf p = none := R.ldj p o upd_same
  refine ⟨fun a u e => ?_, fun a u e => ?_, fun a u e => ?_, fun l k c e => ?_, R.dom, R.inj⟩
  · rw [gone_ne (ne_of_none e h1)]; exact R.same a u e
  · have e' : lk a = some u := e
    have na := ne_of_none e' hl
    rw [gone_ne na]
    exact R.lk a u (by show upd lk p o a = some u; rw [upd_ne na]; exact e')
  · have e' : lk a = some u := e
    have na := ne_of_none e' hl
    exact R.ldj a u (by show upd lk p o a = some u; rw [upd_ne na]; exact e')
  · obtain ⟨a, q1, ⟨u, q2⟩, q3⟩ := R.cell l k c e
    have na : a ≠ p := fun z => hc l k (by rw [← z]; exact q1)
    refine ⟨a, q1, ⟨u, by rw [gone_ne na]; exact q2⟩, ?_⟩
    cases c with
    | live t2 ds2 =>
      obtain ⟨y1, y2, y3, vs2, y4, y5⟩ := q3
      have y2' : upd lk p o a = none := y2
      rw [upd_ne na] at y2'
      exact ⟨y1, y2', y3, vs2, y4.at_ (gone_ne na), y5.atEq⟩
    | lock t2 ds2 =>
      obtain ⟨y1, y3, vs2, y4, y5⟩ := q3
      refine ⟨y1, y3, vs2, ?_, y5.atEq⟩
      have y4' : LkN (upd lk p o) a t2 vs2 := y4
      have lkne : upd lk p o a = lk a := upd_ne na
      show LkN lk a t2 vs2
      cases t2 with
      | lst => exact lkne.symm.trans y4'
      | sq => exact y4'
      | tup => exact y4'
      | dK ks => obtain ⟨z1, w, z2⟩ := y4'; exact ⟨z1, w, lkne.symm.trans z2⟩
      | dT ks => obtain ⟨z1, w, z2⟩ := y4'; exact ⟨z1, w, lkne.symm.trans z2⟩
      | ins c fs => exact y4'
    | dead => trivial
end
section
variable {X : Cx} {pos : Pos} {tg iter elt : Expr} {ifs : List Expr} {scope : Scope} {own : List (Str × Nat)} {us : List Nat} {fi : MI} {ft : MG} {tt : MT} {f : ME}
/-- the weakest reading of all blocks -/
def bWE (X : Cx) (scope : Scope) (e : Expr) : TE := fun σ H Q => ∀ (s : Shared) (H0 : Hp) (C : Addr) (cl : List (Str × Addr)) (fp : List Addr), tWE (X.blk s H0 scope (compEnvC scope cl C X.env) fp) e σ H Q
def bWTs (X : Cx) (scope : Scope) (e : List Expr) : TT := fun σ H Q => ∀ (s : Shared) (H0 : Hp) (C : Addr) (cl : List (Str × Addr)) (fp : List Addr), tWTs (X.blk s H0 scope (compEnvC scope cl C X.env) fp) e σ H Q
def bWG (X : Cx) (scope : Scope) (e : Expr) : TG := fun v σ H Q => ∀ (s : Shared) (H0 : Hp) (C : Addr) (cl : List (Str × Addr)) (fp : List Addr), tWG (X.blk s H0 scope (compEnvC scope cl C X.env) fp) e v σ H Q
theorem lc_run (hus : ∀ i ∈ us, i ∈ own.map (·.2)) (hi : JI X tg iter fi)
    (hg : ∀ (s : Shared) (H : Hp) (C : Addr) (cl : List (Str × Addr)) (fp : List Addr), JG (X.blk s H scope (compEnvC scope cl C X.env) fp) tg us ft) (ht : ∀ (s : Shared) (H : Hp) (C : Addr) (cl : List (Str × Addr)) (fp : List Addr), JTs (X.blk s H scope (compEnvC scope cl C X.env) fp) ifs tt)
    (he : ∀ (s : Shared) (H : Hp) (C : Addr) (cl : List (Str × Addr)) (fp : List Addr), JE (X.blk s H scope (compEnvC scope cl C X.env) fp) elt f)
    {W : WX} (tk : Takes X W) {m : CM} {Hf : Hp} {ρ : Env'} {σ : L2.St} {s : Sto} {H : Hp} {Q : VK} {k : List D → Sto → R D} (hen : EnvOk X.K m Hf ρ σ) (R0 : Rel X.K m Hf s H)
    (h : Post X.K m Hf (Rep X.K) Q (EW W σ) ((mLcI fi ft tt f (own.map (·.2)) ρ s).bind k))
    (hk : ∀ xs s1 m1 Hf1 H1 p vs, Rel X.K m1 Hf1 s1 H1 → RepL X.K m1 Hf1 xs vs → H1 p = none → Post X.K m1 Hf1 (Rep X.K) Q (EW W σ) (k xs s1) → Q (.ref p) (upd H1 p (.lst vs))) :
    tLc (tWI X tg iter) (bWG X scope tg) (bWTs X scope ifs) (bWE X scope elt) (own.map (·.2)) σ H Q := by
  unfold mLcI at h
  refine hi.run W tk m Hf ρ σ s H _ hen R0 ?_
  have h' : Post X.K m Hf (Rep X.K) Q (EW W σ) ((fi ρ s).bind fun ds s1 => (if ds.length ≤ 1000000 then compL ft tt f (wipeE ρ (own.map (·.2))) ds s1 else .stuck).bind k) := by
    cases e : fi ρ s with
    | ok ds s1 => rw [e] at h; exact h
    | ex c fs s1 => rw [e] at h; exact h
    | stuck => rw [e] at h; exact h
  refine Post.bind h' fun ds s1 m1 Hf1 H1 J e1 e2 R1 wk hp => ?_
  intro Dl hD
  by_cases hsz : ds.length ≤ 1000000
  · rw [if_pos hsz] at hp
    obtain ⟨h1, h2, h3⟩ := R1.frees hD
    obtain ⟨Inv', hInv⟩ : ∃ Inv' : Nat → Hp → Prop, Inv' = fun i H => ∃ (at_ : Nat → Nat → Option Addr) (Hfi : Hp) (si : Sto) (accD : List D) (accV : List V), MExt m1 ⟨at_, m1.lk⟩ ∧ (∀ l k, at_ l k ≠ some Dl) ∧ Same Hf1 Hfi ∧ Rel X.K ⟨at_, upd m1.lk Dl (.lst accV)⟩ Hfi si H ∧ RepL X.K ⟨at_, m1.lk⟩ Hfi accD accV ∧ accD.length ≤ i ∧
      Post X.K ⟨at_, m1.lk⟩ Hfi (Rep X.K) Q (EW W σ) ((compL ft tt f (wipeE ρ (own.map (·.2))) (ds.drop i) si).bind fun xs s2 => k (accD ++ xs) s2) := ⟨_, rfl⟩
    refine ⟨fun i mm H => mm = ds.length - i ∧ i ≤ ds.length ∧ Inv' i H, ⟨ds.length, by simp, Nat.zero_le _, ?_⟩, ?_⟩
    · rw [hInv]
      exact ⟨m1.at_, Hf1, s1, [], [], MExt.refl _, fun l k e => h3 l k Dl e rfl, Same.refl _, R1.lockNew hD, RepL.nil, Nat.le_refl _, by simpa using hp⟩
    rintro i mm Hi ⟨rfl, hi', inv⟩
    have inv0 := inv
    rw [hInv] at inv
    obtain ⟨at_, Hfi, si, accD, accV, em, hc, eh, Ri, ra, hal, hpi⟩ := inv
    have el : Same m1.lk Hi := fun b u e => Ri.lk b u (by show upd m1.lk Dl _ b = some u; rw [upd_ne (ne_of_none e h2)]; exact e)
    by_cases hlt : i < ds.length
    · refine .inr ⟨wk.go i Hi el (eh.trans Ri.same) hlt, Inv' (i + 1), fun H' q => ⟨ds.length - (i + 1), by omega, rfl, hlt, q⟩, fun x H' hy => ?_⟩
      have hd : ds[i]? = some ds[i] := by simp [hlt]
      have hdrop : ds.drop i = ds[i] :: ds.drop (i + 1) := List.drop_eq_getElem_cons hlt
      rw [hdrop] at hpi
      have main : ∀ (Hfk : Hp) (Hk : Hp), Same Hfi Hfk → Rel X.K ⟨at_, upd m1.lk Dl (.lst accV)⟩ Hfk si Hk → Rep X.K ⟨at_, upd m1.lk Dl (.lst accV)⟩ Hfk ds[i] x →
          bWG X scope tg x (wipe σ (own.map (·.2))) Hk fun σ2 H2 => wipe σ2 (own.map (·.2)) = wipe σ (own.map (·.2)) ∧ bWTs X scope ifs σ2 H2 fun b H3 =>
            if b = true then bWE X scope elt σ2 H3 fun y H4 => ∃ acc, H4 Dl = some (.lst acc) ∧ acc.length < sizeLine ∧ Inv' (i + 1) (upd H4 Dl (.lst (acc ++ [y]))) else Inv' (i + 1) H3 := by
        intro Hfk Hk ek Rk rk s0 H0 C cl fp
        have hek : EnvOk X.K ⟨at_, upd m1.lk Dl (.lst accV)⟩ Hfk (wipeE ρ (own.map (·.2))) (wipe σ (own.map (·.2))) := EnvOk.atEq (m := ⟨at_, m1.lk⟩) (((hen.mono e1 e2).monoA em.at_ (eh.trans ek)).wipe _)
        refine (hg s0 H0 C cl fp).run (fun _ _ _ _ => False) takes0 _ Hfk _ _ si Hk ds[i] x _ hek Rk rk ?_
        unfold compL at hpi
        cases hh : ft ds[i] (wipeE ρ (own.map (·.2))) si with
        | ex c fs s2 => rw [hh] at hpi; exact hpi.elim
        | stuck => rw [hh] at hpi; exact hpi.elim
        | ok ρ1 s2 =>
          rw [hh] at hpi
          simp only [noEx_ok, Bw.R.bind_ok] at hpi
          intro m2 Hf2 H2 σ2 e3 e4 R2 q2
          refine ⟨wipe_chg hus q2.2, fun s0 H0 C cl fp => ?_⟩
          refine (ht s0 H0 C cl fp).run (fun _ _ _ _ => False) takes0 m2 Hf2 ρ1 σ2 s2 H2 _ q2.1 R2 ?_
          cases ht' : tt ρ1 s2 with
          | ex c fs s3 => rw [ht'] at hpi; exact hpi.elim
          | stuck => rw [ht'] at hpi; exact hpi.elim
          | ok b s3 =>
            rw [ht'] at hpi
            simp only [noEx_ok, Bw.R.bind_ok] at hpi
            intro m3 Hf3 H3 b' e5 e6 R3 rb
            subst rb
            have e35 := e3.trans e5
            have lk3 : m3.lk = upd m1.lk Dl (.lst accV) := e35.lk
            have hc3 : ∀ l k, m3.at_ l k ≠ some Dl := fun l k e => by
              rcases e35.nw l k Dl e with z | z
              · exact hc l k z
              · have z' : upd m1.lk Dl (.lst accV) Dl = none := z
                rw [upd_same] at z'; cases z'
            have mx : ∀ {m4 : CM}, MExt (⟨at_, upd m1.lk Dl (.lst accV)⟩ : CM) m4 → MExt (⟨at_, m1.lk⟩ : CM) ⟨m4.at_, m1.lk⟩ := fun {m4} z => ⟨z.at_, rfl, fun l k a e => by
              rcases z.nw l k a e with w | w
              · exact .inl w
              · right
                have w' : upd m1.lk Dl (.lst accV) a = none := w
                by_cases ha : a = Dl
                · rw [ha]; exact h2
                · rw [upd_ne ha] at w'; exact w'⟩
            cases b with
            | false =>
              rw [if_neg Bool.false_ne_true] at hpi ⊢
              rw [hInv]
              refine ⟨m3.at_, Hf3, s3, accD, accV, em.trans (mx e35), hc3, ((eh.trans ek).trans e4).trans e6, ?_, ra.monoA (mx e35).at_ ((ek.trans e4).trans e6), by omega, Post.mono (mx e35) ((ek.trans e4).trans e6) hpi⟩
              rw [← lk3]; exact R3
            | true =>
              rw [if_pos rfl] at hpi ⊢
              intro s0 H0 C cl fp
              refine (he s0 H0 C cl fp).run (fun _ _ _ _ => False) takes0 m3 Hf3 ρ1 σ2 s3 H3 _ (q2.1.mono e5 e6) R3 ?_
              cases hf' : f ρ1 s3 with
              | ex c fs s4 => rw [hf'] at hpi; exact hpi.elim
              | stuck => rw [hf'] at hpi; exact hpi.elim
              | ok xd s4 =>
                rw [hf'] at hpi
                simp only [noEx_ok, Bw.R.bind_ok] at hpi
                intro m4 Hf4 H4 y e7 e8 R4 ry
                have e37 := e35.trans e7
                have lk4 : m4.lk = upd m1.lk Dl (.lst accV) := e37.lk
                have hc4 : ∀ l k, m4.at_ l k ≠ some Dl := fun l k e => by
                  rcases e37.nw l k Dl e with z | z
                  · exact hc l k z
                  · have z' : upd m1.lk Dl (.lst accV) Dl = none := z
                    rw [upd_same] at z'; cases z'
                have s4' : Same Hfi Hf4 := ((ek.trans e4).trans e6).trans e8
                have ra4 := ra.monoA (mx e37).at_ s4'
                refine ⟨accV, R4.lk Dl _ (by rw [lk4, upd_same]), ?_, ?_⟩
                · rw [ra.length]
                  have := line_big hsz
                  omega
                · rw [hInv]
                  have R4' : Rel X.K ⟨m4.at_, upd m1.lk Dl (.lst accV)⟩ Hf4 s4 H4 := by rw [← lk4]; exact R4
                  refine ⟨m4.at_, Hf4, s4, accD ++ [xd], accV ++ [y], em.trans (mx e37), hc4, eh.trans s4', R4'.relock h2 hc4, ra4.append (RepL.cons (ry.atEq) RepL.nil), by simp; omega, ?_⟩
                  refine Post.mono (mx e37) s4' ?_
                  cases hcl : compL ft tt f (wipeE ρ (own.map (·.2))) (ds.drop (i + 1)) s4 with
                  | ok xs s5 => rw [hcl] at hpi; simpa using hpi
                  | ex c fs s5 => rw [hcl] at hpi; exact hpi
                  | stuck => rw [hcl] at hpi; exact hpi
      rcases wk.yld i Hi x H' ds[i] el (eh.trans Ri.same) hy hd with ⟨rfl, q2⟩ | ⟨p, o, q0, rfl, q2⟩
      · exact main Hfi H' (Same.refl _) Ri (Rep.atEq (m := ⟨at_, m1.lk⟩) (q2.monoA em.at_ eh))
      · obtain ⟨ek, Rk⟩ := Ri.new (o := o) q0
        exact main _ _ ek Rk (Rep.atEq (m := ⟨at_, m1.lk⟩) (q2.monoA em.at_ (Same.upd2 eh)))
    · have e : i = ds.length := by omega
      subst e
      refine .inl ⟨wk.stop _ Hi el (eh.trans Ri.same) (Nat.le_refl _), ?_⟩
      rw [List.drop_length] at hpi
      simp only [compL, Bw.R.bind_ok, List.append_nil] at hpi
      have hDl : Hi Dl = some (.lst accV) := Ri.lk Dl _ (by show upd m1.lk Dl _ Dl = _; rw [upd_same])
      have := hk accD si ⟨at_, m1.lk⟩ Hfi (gone Hi Dl) Dl accV (Ri.unlock h2 hc) ra gone_same hpi
      rw [gone_upd hDl] at this
      exact this
  · rw [if_neg hsz] at hp
    exact hp.elim
theorem pe_lcW (hc : X.calm = true) (hN : X.N.Nodup) (ok : BlkOk X.N X.env.scope scope own) (hs : ∀ x, foldedSetIterable iter X.env x = pure x) : PE X (.ListComp elt [⟨tg, iter, ifs, 0⟩] scope pos) (tLc (tWI X tg iter) (bWG X scope tg) (bWTs X scope ifs) (bWE X scope elt) (own.map (·.2))) :=
  pe_lc hc hN pi_W ok (fun s H C cl fp => ⟨fun pins s' σ H' v u Q I r h => h s H C cl fp pins s' u I r⟩) (fun s H C cl fp => ⟨fun pins s' σ H' Q I h => h s H C cl fp pins s' I⟩) (fun s H C cl fp => ⟨fun pins s' σ H' Q I h => h s H C cl fp pins s' I⟩) hs
theorem je_lc (hc : X.calm = true) (hN : X.N.Nodup) (hi : JI X tg iter fi) (ok : blkC X.N X.env.scope scope own = true) (hus : ∀ i ∈ us, i ∈ own.map (·.2))
    (hg : ∀ (s : Shared) (H : Hp) (C : Addr) (cl : List (Str × Addr)) (fp : List Addr), JG (X.blk s H scope (compEnvC scope cl C X.env) fp) tg us ft) (ht : ∀ (s : Shared) (H : Hp) (C : Addr) (cl : List (Str × Addr)) (fp : List Addr), JTs (X.blk s H scope (compEnvC scope cl C X.env) fp) ifs tt)
    (he : ∀ (s : Shared) (H : Hp) (C : Addr) (cl : List (Str × Addr)) (fp : List Addr), JE (X.blk s H scope (compEnvC scope cl C X.env) fp) elt f) (hs : ∀ x, foldedSetIterable iter X.env x = pure x := by intro _; rfl) : JE X (.ListComp elt [⟨tg, iter, ifs, 0⟩] scope pos) (mLc fi ft tt f (own.map (·.2))) := ⟨fun W tk m Hf ρ σ s H Q hen R h =>
  we_of (pe_lcW hc hN (blkOk_by ok) hs) (lc_run hus hi hg ht he tk hen R h fun xs s1 m1 Hf1 H1 p vs R1 r1 hp h1 => Post.newL R1 r1 h1 p hp)⟩
theorem je_lcC (hc : X.calm = true) (hN : X.N.Nodup) (hi : JI X tg iter fi) (ok : blkC X.N X.env.scope scope own = true) (hus : ∀ i ∈ us, i ∈ own.map (·.2))
    (hg : ∀ (s : Shared) (H : Hp) (C : Addr) (cl : List (Str × Addr)) (fp : List Addr), JG (X.blk s H scope (compEnvC scope cl C X.env) fp) tg us ft) (ht : ∀ (s : Shared) (H : Hp) (C : Addr) (cl : List (Str × Addr)) (fp : List Addr), JTs (X.blk s H scope (compEnvC scope cl C X.env) fp) ifs tt)
    (he : ∀ (s : Shared) (H : Hp) (C : Addr) (cl : List (Str × Addr)) (fp : List Addr), JE (X.blk s H scope (compEnvC scope cl C X.env) fp) elt f) (hs : ∀ x, foldedSetIterable iter X.env x = pure x := by intro _; rfl) : JE X (.ListComp elt [⟨tg, iter, ifs, 0⟩] scope pos) (mLcC fi ft tt f (own.map (·.2))) := ⟨fun W tk m Hf ρ σ s H Q hen R h =>
  we_of (pe_lcW hc hN (blkOk_by ok) hs) (lc_run hus hi hg ht he tk hen R h fun xs s1 m1 Hf1 H1 p vs R1 r1 hp h1 => Post.newCL R1 r1 h1 p hp)⟩
/-- name = [..] -/
def mSetI (i : Nat) (f : ME) : MS := mSetN i f
theorem ps_setLcW (i : Nat) {y : Str} {py spos : Pos} (hc : X.calm = true) (hN : X.N.Nodup) (hy : X.N[i]? = some y) (hyl : X.env.scope.names.lookup y = some .local)
    (hsw : swapsWith (.ListComp elt [⟨tg, iter, ifs, 0⟩] scope pos) (some (.Name y py)) spos.line X.env = pure true) (ok : BlkOk X.N X.env.scope scope own) (hs : ∀ x, foldedSetIterable iter X.env x = pure x) :
    PS X (.Assign [.Name y py] (.ListComp elt [⟨tg, iter, ifs, 0⟩] scope pos) spos) (tAsg (tLc (tWI X tg iter) (bWG X scope tg) (bWTs X scope ifs) (bWE X scope elt) (own.map (·.2))) (gName i)) :=
  ps_setLc hc hN hy hyl hsw pi_W ok (fun s H C cl fp => ⟨fun pins s' σ H' v u Q I r h => h s H C cl fp pins s' u I r⟩) (fun s H C cl fp => ⟨fun pins s' σ H' Q I h => h s H C cl fp pins s' I⟩) (fun s H C cl fp => ⟨fun pins s' σ H' Q I h => h s H C cl fp pins s' I⟩) hs
end
section
variable {X : Cx} {pos : Pos} {tg iter elt : Expr} {ifs : List Expr} {scope : Scope} {own : List (Str × Nat)} {us : List Nat} {fi : MI} {ft : MG} {tt : MT} {f : ME}
theorem js_setLc (i : Nat) {y : Str} {py spos : Pos} (hc : X.calm = true) (hN : X.N.Nodup) (hyl : X.env.scope.names.lookup y = some .local) (hl : (py.line == pos.line) = true) (hk : X.env.scope.kind = .function)
    (hi : JI X tg iter fi) (ok : blkC X.N X.env.scope scope own = true) (hus : ∀ i ∈ us, i ∈ own.map (·.2)) (hna : (scope.names.any fun (n, k) => n == y && (k == .local || k == .cell)) = false)
    (hg : ∀ (s : Shared) (H : Hp) (C : Addr) (cl : List (Str × Addr)) (fp : List Addr), JG (X.blk s H scope (compEnvC scope cl C X.env) fp) tg us ft) (ht : ∀ (s : Shared) (H : Hp) (C : Addr) (cl : List (Str × Addr)) (fp : List Addr), JTs (X.blk s H scope (compEnvC scope cl C X.env) fp) ifs tt)
    (he : ∀ (s : Shared) (H : Hp) (C : Addr) (cl : List (Str × Addr)) (fp : List Addr), JE (X.blk s H scope (compEnvC scope cl C X.env) fp) elt f) (hy : X.N[i]? = some y := by rfl) (hs : ∀ x, foldedSetIterable iter X.env x = pure x := by intro _; rfl) :
    JS X (.Assign [.Name y py] (.ListComp elt [⟨tg, iter, ifs, 0⟩] scope pos) spos) (mSetN i (mLc fi ft tt f (own.map (·.2)))) := ⟨fun W tk m Hf ρ σ s H D hen R h => by
  refine ws_of (ps_setLcW i hc hN hy hyl (sw_true hk hyl hl hna) (blkOk_by ok) hs) ?_
  refine lc_run (k := fun xs s1 => .ok (.node .lst xs) s1) hus hi hg ht he tk hen R (PostS.bind hen h fun d s1 m1 Hf1 H1 v e1 e2 R1 r1 h1 => ?_) fun xs s1 m1 Hf1 H1 p vs R1 r1 hp h1 => Post.newL R1 r1 h1 p hp
  exact h1.nx' R1 ((hen.mono e1 e2).set r1)⟩
theorem js_setLcC (i : Nat) {y : Str} {py spos : Pos} (hc : X.calm = true) (hN : X.N.Nodup) (hyl : X.env.scope.names.lookup y = some .local) (hl : (py.line == pos.line) = true) (hk : X.env.scope.kind = .function)
    (hi : JI X tg iter fi) (ok : blkC X.N X.env.scope scope own = true) (hus : ∀ i ∈ us, i ∈ own.map (·.2)) (hna : (scope.names.any fun (n, k) => n == y && (k == .local || k == .cell)) = false)
    (hg : ∀ (s : Shared) (H : Hp) (C : Addr) (cl : List (Str × Addr)) (fp : List Addr), JG (X.blk s H scope (compEnvC scope cl C X.env) fp) tg us ft) (ht : ∀ (s : Shared) (H : Hp) (C : Addr) (cl : List (Str × Addr)) (fp : List Addr), JTs (X.blk s H scope (compEnvC scope cl C X.env) fp) ifs tt)
    (he : ∀ (s : Shared) (H : Hp) (C : Addr) (cl : List (Str × Addr)) (fp : List Addr), JE (X.blk s H scope (compEnvC scope cl C X.env) fp) elt f) (hy : X.N[i]? = some y := by rfl) (hs : ∀ x, foldedSetIterable iter X.env x = pure x := by intro _; rfl) :
    JS X (.Assign [.Name y py] (.ListComp elt [⟨tg, iter, ifs, 0⟩] scope pos) spos) (mSetN i (mLcC fi ft tt f (own.map (·.2)))) := ⟨fun W tk m Hf ρ σ s H D hen R h => by
  refine ws_of (ps_setLcW i hc hN hy hyl (sw_true hk hyl hl hna) (blkOk_by ok) hs) ?_
  refine lc_run (k := fun xs s1 => .ok (.cell s1.out.length s1.loc.length) (s1.alloc (.live .lst xs))) hus hi hg ht he tk hen R (PostS.bind hen h fun d s1 m1 Hf1 H1 v e1 e2 R1 r1 h1 => ?_) fun xs s1 m1 Hf1 H1 p vs R1 r1 hp h1 => Post.newCL R1 r1 h1 p hp
  exact h1.nx' R1 ((hen.mono e1 e2).set r1)⟩
end
end Bw

namespace Bw
open PySem PySem.Spec PyProof.Rows L2

/-! ### a frame of its own for a call's cells -/
namespace Sto
/-- s, and a call's own cells -/
def frame (s : Sto) (cs : List CE) : Sto := ⟨s.out ++ [s.loc], cs⟩
variable {s : Sto} {l k : Nat} {c c' : CE} {cs : List CE}
theorem push_eq : s.push = s.frame [] := rfl
@[simp] theorem frame_lvl : (s.frame cs).out.length = s.out.length + 1 := by simp [frame]
@[simp] theorem frame_loc : (s.frame cs).loc = cs := rfl
@[simp] theorem frame_pop : (s.frame cs).pop = s := by
  unfold frame pop
  simp
@[simp] theorem frame_alloc : (s.frame cs).alloc c = s.frame (cs ++ [c]) := rfl
theorem frame_get_own : (s.frame cs).get (s.out.length + 1) k = cs[k]? := by
  unfold frame get
  simp
theorem frame_get (h : l ≤ s.out.length) : (s.frame cs).get l k = s.get l k := by
  unfold frame get
  have h1 : ¬ l = (s.out ++ [s.loc]).length := by simp; omega
  rw [if_neg h1]
  by_cases e : l = s.out.length
  · subst e; simp
  · rw [if_neg e, List.getElem?_append_left (by omega)]
theorem frame_get_of (h : s.get l k = some c) : (s.frame cs).get l k = some c := by rw [frame_get (get_lvl h)]; exact h
theorem frame_set_own : (s.frame cs).set (s.out.length + 1) k c = s.frame (cs.set k c) := by
  unfold frame set
  simp
theorem frame_set (h : l ≤ s.out.length) : (s.frame cs).set l k c = (s.set l k c).frame cs := by
  unfold frame set
  have h1 : ¬ l = (s.out ++ [s.loc]).length := by simp; omega
  rw [if_neg h1]
  by_cases e : l = s.out.length
  · subst e
    simp only [if_pos]
    congr 1
    apply List.ext_getElem?
    intro i
    rw [List.getElem?_modify]
    by_cases hi : s.out.length = i
    · subst hi; simp
    · simp only [if_neg hi]
      by_cases h2 : i < s.out.length
      · rw [List.getElem?_append_left h2, List.getElem?_append_left h2]; simp
      · rw [List.getElem?_eq_none (by simp; omega), List.getElem?_eq_none (by simp; omega)]; rfl
  · simp only [if_neg e]
    congr 1
    apply List.ext_getElem?
    intro i
    rw [List.getElem?_modify]
    by_cases hi : l = i
    · subst hi
      rw [List.getElem?_append_left (by omega), List.getElem?_append_left (by rw [List.length_modify]; omega), List.getElem?_modify]
    · by_cases h2 : i < s.out.length
      · rw [List.getElem?_append_left h2, List.getElem?_append_left (by rw [List.length_modify]; exact h2), List.getElem?_modify]
      · rw [List.getElem?_append_right (by omega), List.getElem?_append_right (by rw [List.length_modify]; omega), List.length_modify]
        simp [hi]
theorem frame_set_of (h : s.get l k = some c') : (s.frame cs).set l k c = (s.set l k c).frame cs := frame_set (get_lvl h)
theorem get_pop {n : Nat} (h : s.out.length = n + 1) : s.pop.get l k = if l ≤ n then s.get l k else none := by
  unfold pop get
  have hne : s.out ≠ [] := fun e => by rw [e] at h; cases h
  have hl : s.out.dropLast.length = n := by simp [h]
  simp only [hl]
  by_cases e : l = n
  · subst e
    have h1 : ¬ l = s.out.length := by omega
    rw [if_pos rfl, if_pos (Nat.le_refl _), if_neg h1]
    have hg : s.out[l]? = some (s.out.getLastD []) := by
      rw [List.getLastD_eq_getLast?, List.getLast?_eq_getElem?]
      have : s.out.length - 1 = l := by omega
      rw [this]
      have hlt : l < s.out.length := by omega
      rw [List.getElem?_eq_getElem hlt]
      rfl
    rw [hg]
    rfl
  · rw [if_neg e]
    by_cases e2 : l ≤ n
    · have h1 : ¬ l = s.out.length := by omega
      rw [if_pos e2, if_neg h1, List.getElem?_dropLast]
      have : l < s.out.length - 1 := by omega
      rw [if_pos this]
    · rw [if_neg e2, List.getElem?_eq_none (by rw [hl]; omega)]
      rfl
end Sto
section
variable {K : PySem.W.Frag} {m : CM} {Hf H : Hp} {s : Sto} {n : Nat}
theorem Rel.push (R : Rel K m Hf s H) : Rel K m Hf s.push H := by
  have key : ∀ l k, s.push.get l k = s.get l k := fun l k => by
    rw [Sto.push_eq]
    by_cases h : l ≤ s.out.length
    · exact Sto.frame_get h
    · by_cases h2 : l = s.out.length + 1
      · subst h2
        rw [Sto.frame_get_own]
        cases e : s.get (s.out.length + 1) k with
        | none => simp
        | some c => have : s.out.length + 1 ≤ s.out.length := Sto.get_lvl e; omega
      · cases e : s.get l k with
        | some c => have : l ≤ s.out.length := Sto.get_lvl e; omega
        | none =>
          cases e2 : (s.frame []).get l k with
          | none => rfl
          | some c => have := Sto.get_lvl e2; simp [Sto.lvl] at this; omega
  exact ⟨R.same, R.lk, R.ldj, fun l k c e => R.cell l k c (by rw [← key]; exact e), fun l k a e => by rw [key]; exact R.dom l k a e, R.inj⟩
/-- the cells at n and below -/
def CM.cut (m : CM) (n : Nat) : CM := ⟨fun l k => if l ≤ n then m.at_ l k else none, m.lk⟩
theorem CM.cut_at {l k : Nat} {a : Addr} : (m.cut n).at_ l k = some a ↔ l ≤ n ∧ m.at_ l k = some a := by
  show (if l ≤ n then m.at_ l k else none) = some a ↔ _
  by_cases h : l ≤ n
  · rw [if_pos h]; exact ⟨fun z => ⟨h, z⟩, fun z => z.2⟩
  · rw [if_neg h]; exact ⟨fun z => (by cases z), fun z => absurd z.1 h⟩
theorem Rel.pop (R : Rel K m Hf s H) (h : s.out.length = n + 1) : Rel K (m.cut n) Hf s.pop H := by
  refine ⟨R.same, R.lk, R.ldj, fun l k c e => ?_, fun l k a e => ?_, fun l k l' k' a e1 e2 => ?_⟩
  · rw [Sto.get_pop h] at e
    by_cases hl : l ≤ n
    · rw [if_pos hl] at e
      obtain ⟨a, q1, q2, q3⟩ := R.cell l k c e
      refine ⟨a, CM.cut_at.mpr ⟨hl, q1⟩, q2, ?_⟩
      cases c with
      | live t ds =>
        obtain ⟨y1, y2, y3, vs, y4, y5⟩ := q3
        exact ⟨y1, y2, y3, vs, y4, y5.cut (fun l' k' b h1 h2 => CM.cut_at.mpr ⟨Nat.le_trans h1 hl, h2⟩) y3⟩
      | lock t ds =>
        obtain ⟨y1, y3, vs, y4, y5⟩ := q3
        exact ⟨y1, y3, vs, y4, y5.cut (fun l' k' b h1 h2 => CM.cut_at.mpr ⟨Nat.le_trans h1 hl, h2⟩) y3⟩
      | dead => trivial
    · rw [if_neg hl] at e; cases e
  · obtain ⟨hl, e⟩ := CM.cut_at.mp e
    obtain ⟨c, hc⟩ := R.dom l k a e
    exact ⟨c, by rw [Sto.get_pop h, if_pos hl]; exact hc⟩
  · exact R.inj l k l' k' a (CM.cut_at.mp e1).2 (CM.cut_at.mp e2).2
theorem MExt.cut {m m' : CM} {s : Sto} {Hf H : Hp} (R : Rel K m Hf s H) (em : MExt m m') : MExt m (m'.cut s.out.length) := by
  refine ⟨fun l k a e => ?_, em.lk, fun l k a e => em.nw l k a (CM.cut_at.mp e).2⟩
  obtain ⟨c, hc⟩ := R.dom l k a e
  exact CM.cut_at.mpr ⟨Sto.get_lvl hc, em.at_ l k a e⟩
/-- .. and one of the call's own cells goes up -/
theorem Rel.popMove {t : Tag} {ds : List D} {k : Nat} {a : Addr} (R : Rel K m Hf s H) (h : s.out.length = n + 1) (hg : s.get (n + 1) k = some (.live t ds)) (ha : m.at_ (n + 1) k = some a) (hl : D.leL n ds = true) :
    ∃ m', MExt (m.cut n) m' ∧ m'.at_ n s.pop.loc.length = some a ∧ Rel K m' Hf (s.pop.alloc (.live t ds)) H := by
  have RP := R.pop h
  obtain ⟨a', q1, q2, y1, y2, y3, vs, y4, y5⟩ := R.cell _ _ _ hg
  rw [ha] at q1
  cases q1
  have hol : s.pop.out.length = n := by simp [Sto.pop, h]
  have nn : (m.cut n).at_ n s.pop.loc.length = none := by
    cases e : (m.cut n).at_ n s.pop.loc.length with
    | none => rfl
    | some b =>
      obtain ⟨c, hc⟩ := RP.dom _ _ _ e
      have := Sto.get_new (s := s.pop)
      rw [hol] at this
      rw [this] at hc
      cases hc
  have na : ∀ l k' b, (m.cut n).at_ l k' = some b → b ≠ a := fun l k' b e z => by
    obtain ⟨hl', e'⟩ := CM.cut_at.mp e
    subst z
    have := (R.inj _ _ _ _ _ e' ha).1
    omega
  let m' : CM := ⟨fun l k => if l = n ∧ k = s.pop.loc.length then some a else (m.cut n).at_ l k, m.lk⟩
  have hat : ∀ l k, m'.at_ l k = if l = n ∧ k = s.pop.loc.length then some a else (m.cut n).at_ l k := fun _ _ => rfl
  have em : MExt (m.cut n) m' := ⟨fun l k b e => (show (if l = n ∧ k = s.pop.loc.length then some a else (m.cut n).at_ l k) = some b from by
    rw [if_neg]
    · exact e
    · rintro ⟨rfl, rfl⟩
      rw [nn] at e
      cases e), (rfl : m.lk = m.lk), fun l k b e => by
    rw [hat] at e
    by_cases h : l = n ∧ k = s.pop.loc.length
    · rw [if_pos h] at e; cases e; exact .inr y2
    · rw [if_neg h] at e; exact .inl e⟩
  have hget : ∀ l k, (s.pop.alloc (.live t ds)).get l k = if l = n ∧ k = s.pop.loc.length then some (.live t ds) else s.pop.get l k := fun l k => by
    rw [Sto.get_alloc, hol]
  refine ⟨m', em, by rw [hat, if_pos ⟨rfl, rfl⟩], R.same, R.lk, R.ldj, fun l k c e => ?_, fun l k b e => ?_, fun l k l' k' b e1 e2 => ?_⟩
  · rw [hget] at e
    rw [hat]
    by_cases h : l = n ∧ k = s.pop.loc.length
    · rw [if_pos h] at e ⊢
      cases e
      refine ⟨a, rfl, q2, y1, y2, ?_, vs, y4, ?_⟩
      · rw [h.1]; exact hl
      · exact (y5.cut (m' := m.cut n) (fun l' k' b h1 h2 => CM.cut_at.mpr ⟨h1, h2⟩) hl).mono em (Same.refl _)
    · rw [if_neg h] at e ⊢
      obtain ⟨b, z1, z2, z3⟩ := RP.cell l k c e
      refine ⟨b, z1, z2, ?_⟩
      cases c with
      | live t2 ds2 =>
        obtain ⟨w1, w2, w3, vs2, w4, w5⟩ := z3
        exact ⟨w1, w2, w3, vs2, w4, w5.mono em (Same.refl _)⟩
      | lock t2 ds2 =>
        obtain ⟨w1, w3, vs2, w4, w5⟩ := z3
        exact ⟨w1, w3, vs2, w4, w5.mono em (Same.refl _)⟩
      | dead => trivial
  · rw [hat] at e
    rw [hget]
    by_cases h : l = n ∧ k = s.pop.loc.length
    · exact ⟨_, if_pos h⟩
    · rw [if_neg h] at e ⊢
      exact RP.dom l k b e
  · rw [hat] at e1 e2
    by_cases h : l = n ∧ k = s.pop.loc.length
    · by_cases h' : l' = n ∧ k' = s.pop.loc.length
      · exact ⟨h.1.trans h'.1.symm, h.2.trans h'.2.symm⟩
      · rw [if_pos h] at e1
        rw [if_neg h'] at e2
        cases e1
        exact absurd rfl (na _ _ _ e2)
    · by_cases h' : l' = n ∧ k' = s.pop.loc.length
      · rw [if_neg h] at e1
        rw [if_pos h'] at e2
        cases e2
        exact absurd rfl (na _ _ _ e1)
      · rw [if_neg h] at e1
        rw [if_neg h'] at e2
        exact RP.inj l k l' k' b e1 e2
end

/-! ### defs -/
abbrev Fn := List D → Sto → R D
/-- a call's end: its own cells go, one that comes back goes up -/
def popR (n : Nat) (d : D) (s : Sto) : R D :=
  if s.out.length = n + 1 then
    if d.le n then .ok d s.pop
    else match d with
      | .cell l k => if l = n + 1 then match s.get l k with
          | some (.live t ds) => if D.leL n ds then .ok (.cell n s.pop.loc.length) (s.pop.alloc (.live t ds)) else .stuck
          | _ => .stuck
        else .stuck
      | _ => .stuck
  else .stuck
def finish (n : Nat) (r : SR) : R D := match r with
  | .nx _ s => popR n .non s
  | .rt d s => popR n d s
  | .ex _ c fs s => if s.out.length = n + 1 ∧ D.leL n (fs.map (·.2)) = true then .ex c fs s.pop else .stuck
  | _ => .stuck
/-- nl names, the parameters first -/
def mkFn (nl : Nat) (body : MS) : Fn := fun ds s => finish s.out.length (body (ds.map some ++ List.replicate (nl - ds.length) none) s.push)
def spF (K : PySem.W.Frag) (n : Nat) (F : Fn) : Sp := fun vs H Q E => vs.length = n ∧ ∃ (m : CM) (Hf : Hp) (s : Sto) (ds : List D), Rel K m Hf s H ∧ RepL K m Hf ds vs ∧ Post K m Hf (Rep K) Q E (F ds s)
theorem envOk_start {K : PySem.W.Frag} {m : CM} {Hf : Hp} {N : List Str} {ds : List D} {vs : List V} (r : RepL K m Hf ds vs) : EnvOk K m Hf (ds.map some ++ List.replicate (N.length - ds.length) none) (L2.start N vs) := by
  have hl := r.length
  refine ⟨by simp [L2.start, hl], fun i d e => ?_⟩
  have hi : i < ds.length := by
    by_cases h : i < ds.length
    · exact h
    · rw [List.getElem?_append_right (by simp; omega), List.getElem?_replicate] at e
      split at e <;> cases e
  rw [List.getElem?_append_left (by simpa using hi), List.getElem?_map] at e
  cases q : ds[i]? with
  | none => rw [q] at e; cases e
  | some d' =>
    rw [q] at e
    cases e
    obtain ⟨v, h1, h2⟩ := r.get q
    have hv : i < vs.length := by omega
    refine ⟨v, ?_, h2⟩
    unfold L2.start
    rw [List.getElem?_append_left (by simpa using hv), List.getElem?_map, h1]
    rfl
theorem popR_ok {K : PySem.W.Frag} {m : CM} {Hf H : Hp} {s : Sto} {Q : VK} {E : XK} {d : D} {m' : CM} {Hf' H' : Hp} {s' : Sto} {v : V} (R0 : Rel K m Hf s H) (em : MExt m m') (eh : Same Hf Hf') (R1 : Rel K m' Hf' s' H') (r : Rep K m' Hf' d v)
    (h : Post K m Hf (Rep K) Q E (popR s.out.length d s')) : Q v H' := by
  unfold popR at h
  by_cases hl : s'.out.length = s.out.length + 1
  · rw [if_pos hl] at h
    by_cases hd : d.le s.out.length = true
    · rw [if_pos hd] at h
      exact h (m'.cut s.out.length) Hf' H' v (MExt.cut R0 em) eh (R1.pop hl) (r.cut (fun l k a h1 h2 => CM.cut_at.mpr ⟨h1, h2⟩) hd)
    · rw [if_neg hd] at h
      cases d with
      | cell l k =>
        dsimp only at h
        by_cases hk : l = s.out.length + 1
        · rw [if_pos hk] at h
          cases e : s'.get l k with
          | none => rw [e] at h; exact h.elim
          | some c =>
            rw [e] at h
            cases c with
            | live t ds =>
              dsimp only at h
              by_cases hds : D.leL s.out.length ds = true
              · rw [if_pos hds] at h
                unfold Rep at r
                obtain ⟨a, h1, rfl⟩ := r
                subst hk
                obtain ⟨m2, e2, h2, R2⟩ := R1.popMove hl e h1 hds
                exact h m2 Hf' H' (.ref a) ((MExt.cut R0 em).trans e2) eh R2 (by unfold Rep; exact ⟨a, h2, rfl⟩)
              · rw [if_neg hds] at h; exact h.elim
            | lock t ds => exact h.elim
            | dead => exact h.elim
        · rw [if_neg hk] at h; exact h.elim
      | _ => exact h.elim
  · rw [if_neg hl] at h; exact h.elim
/-- room, and no repr under way -/
structure RoomG (k : Nat) (A : Around) : Prop where
  r : Room k A
  g : A.guards = some []
theorem RoomG.mono {j k : Nat} {A : Around} (r : RoomG k A) (h : j ≤ k) : RoomG j A := ⟨r.r.mono h, r.g⟩
theorem RoomG.deeper {k : Nat} {A : Around} (r : RoomG (k + 1) A) (env : Env) : RoomG k (A.deeper env) := ⟨r.r.deeper env, r.g⟩
theorem RoomG.in1 {k : Nat} {A : Around} (r : RoomG (k + 1) A) : RoomG k A.in1 := ⟨r.r.in1, r.g⟩
/-- f's promise, where no repr is under way -/
structure FnG (P : Program) (w : World) (K : PySem.W.Frag) (mg : Str → Option Value) (base : Heap) (k : Nat) (f : Addr) (fd : FuncData) (ps : List Str) (F : Fn) : Prop where
  run : ∀ (A : Around) (outer : List Env) (s : Shared) (H : Hp) (args : Args) (us : List Value) (vs : List V) (Q : VK) (E : XK), RoomG k A → Env0 P w K mg base A outer s H → BindsTo s fd args (ps.zip us) → Vals vs us → spF K ps.length F vs H Q E →
    codeAny (model P w) A (.call (.ref f) args) (CR (L2.CX P w) outer P w H s Q E) s
theorem FnG.mono {P : Program} {w : World} {K : PySem.W.Frag} {mg : Str → Option Value} {base : Heap} {j k : Nat} {f : Addr} {fd : FuncData} {ps : List Str} {F : Fn} (o : FnG P w K mg base j f fd ps F) (h : j ≤ k) : FnG P w K mg base k f fd ps F :=
  ⟨fun A outer s H args us vs Q E hr => o.run A outer s H args us vs Q E (hr.mono h)⟩
/-- the body's run, from the promise -/
theorem body_ok {X : Cx} {params : Nat} {body : List Stmt} {fb : MS} {N : List Str} {vs : List V} {H : Hp} {Q : VK} {E : XK} (tk : Takes X fun cls d _ H => E cls d H) (hb : JSs X body fb) (h : spF X.K params (mkFn N.length fb) vs H Q E) : tWSs X body { nx := fun _ H' => Q .non H', rt := Q } (L2.start N vs) H := by
  obtain ⟨hl, m, Hf, st, ds, R0, r, hp⟩ := h
  refine hb.run (fun cls d _ H => E cls d H) tk m Hf _ (L2.start N vs) st.push H _ (envOk_start r) R0.push ?_
  unfold mkFn at hp
  cases hh : fb (ds.map some ++ List.replicate (N.length - ds.length) none) st.push with
  | nx ρ s1 =>
    rw [hh] at hp
    exact fun m' Hf' H' σ' e1 e2 R1 _ => popR_ok R0 e1 e2 R1 (show Rep X.K m' Hf' .non .non from by unfold Rep; rfl) hp
  | rt d s1 =>
    rw [hh] at hp
    exact fun m' Hf' H' v e1 e2 R1 rv => popR_ok R0 e1 e2 R1 rv hp
  | ex ρ c fs s1 =>
    rw [hh] at hp
    unfold finish at hp
    dsimp only at hp
    by_cases hc : s1.out.length = st.out.length + 1 ∧ D.leL st.out.length (fs.map (·.2)) = true
    · rw [if_pos hc] at hp
      intro m' Hf' H' σ' cls d e1 e2 R1 _ x
      refine hp (m'.cut st.out.length) Hf' H' cls d (MExt.cut R0 e1) e2 (R1.pop hc.1) ⟨x.1, fun hne => ?_⟩
      obtain ⟨dd, vs', q1, q2, q3⟩ := x.2 hne
      exact ⟨dd, vs', q1, q2, q3.cut (fun l k a h1 h2 => CM.cut_at.mpr ⟨h1, h2⟩) hc.2⟩
    · rw [if_neg hc] at hp; exact hp.elim
  | bk ρ s1 => rw [hh] at hp; exact hp.elim
  | ct ρ s1 => rw [hh] at hp; exact hp.elim
  | stuck => rw [hh] at hp; exact hp.elim
theorem fn_ok {P : Program} {w : World} {K : PySem.W.Frag} {mg : Str → Option Value} {base : Heap} {x qual : Str} {params : Arguments} {body : List Stmt} {scope : Scope} {dvs : List V} {kws : List (Str × V)} {f : Addr} {fd : FuncData} {N ps : List Str} {k : Nat} {fb : MS}
    (F : FunD K x qual params body scope dvs kws f fd) (S : FnScope N ps scope)
    (hb : ∀ (cdv : Value) (A : Around) (outer : List Env) (s : Shared) (H : Hp) (E : XK), RoomG k (A.deeper (envOfC qual scope s.heap.objs.size f cdv)) → JSs (cxOf (L2.CX P w) P w K mg base N qual scope f cdv A outer s H E) body fb) :
    FnG P w K mg base (k + 1) f fd ps (mkFn N.length fb) := by
  obtain ⟨oc, od, dV, kV, doc, pm, an, cdv, ct, osl, rfl, lk, hcd, _, _⟩ := F.ex
  refine ⟨fun A outer s H args us vs Q E hr e0 hbt r hsp => ?_⟩
  have KX : K.In s.heap := e0.mod.kin.keeps fun b o e => (e0.bs b o e).1
  have lim : s.heap.NoLimit := e0.mod.nolimit.keeps fun b o e => (e0.bs b o e).1
  have hkind : ∀ y ∈ ps.zip us, scope.names.lookup y.1 = some .local ∨ (scope.names.lookup y.1 = some .cell ∧ ((cellsFrom (s.heap.objs.size + 1) scope.names []).lookup y.1).isSome = true) := fun y hy => (S.par y.1 (List.of_mem_zip hy).1).imp id fun q => ⟨q, PySem.W.cellsFrom_some _ _ _ (.inl q)⟩
  refine codeAny_call_function hr.r.depth (KX _ _ lk) rfl S.co S.gen rfl (PySem.W.codeRec_of KX hcd) (hbt _ _ _ _ (wpAny_newFunctionEnv_cells S.kind hkind fun env he s1 y => ?_))
  subst he
  refine ⟨lim.keeps y.toInCall.keep, codeAny_func ?_⟩
  have I : Inv (cxOf (L2.CX P w) P w K mg base N qual scope f cdv A outer s H E) [] (L2.start N vs) H s1 := inv_start S hr.r.hd e0 hsp.1 r y
  refine wpAny_mono (body_ok (X := cxOf (L2.CX P w) P w K mg base N qual scope f cdv A outer s H E) (takes_of rfl rfl rfl rfl) (hb cdv A outer s H E (hr.deeper _)) hsp [] s1 I) (fun fl s' hs => ?_) fun _ _ hs => hs
  cases fl with
  | ret u =>
    obtain ⟨v, _, H', J, rv, q⟩ := hs
    exact ⟨v, H', J.os, J.bare, J.base, J.hok, rv, q⟩
  | next =>
    obtain ⟨_, H', J, q⟩ := hs
    exact ⟨V.non, H', J.os, J.bare, J.base, J.hok, rfl, q⟩
  | brk =>
    obtain ⟨_, _, _, q⟩ := hs
    exact False.elim q
  | cont =>
    obtain ⟨_, _, _, q⟩ := hs
    exact False.elim q
/-- another function of the same worth -/
theorem fn_imp {P : Program} {w : World} {K : PySem.W.Frag} {mg : Str → Option Value} {base : Heap} {f : Addr} {fd : FuncData} {ps : List Str} {k : Nat} {F G : Fn} (o : FnG P w K mg base k f fd ps F) (h : ∀ ds s, G ds s = .stuck ∨ F ds s = G ds s) :
    FnG P w K mg base k f fd ps G := ⟨fun A outer s H args us vs Q E hr he hb hv hs => o.run A outer s H args us vs Q E hr he hb hv (by
  obtain ⟨hl, m, Hf, st, ds, R0, r, hp⟩ := hs
  refine ⟨hl, m, Hf, st, ds, R0, r, ?_⟩
  rcases h ds st with e | e
  · rw [e] at hp; exact hp.elim
  · rw [e]; exact hp)⟩

/-! ### calls -/
/-- how np positional values and those of the keywords ks are bound: gD puts them into the parameters' order, defaults among them -/
structure BD (K : PySem.W.Frag) (fd : FuncData) (ps : List Str) (np : Nat) (ks : List Str) (gD : List D → List D → List D) : Prop where
  ex : ∃ (G : List Value → List Value → List Value) (g : List V → List V → List V),
    (∀ (s : Shared) (us ws : List Value), K.In s.heap → us.length = np → ws.length = ks.length → BindsTo s fd ⟨us, ks.zip ws⟩ (ps.zip (G us ws))) ∧
    (∀ (vs : List V) (us : List Value) (zs : List V) (ws : List Value), Vals vs us → Vals zs ws → Vals (g vs zs) (G us ws)) ∧
    ∀ (m : CM) (Hf : Hp) (ds : List D) (vs : List V) (es : List D) (zs : List V), RepL K m Hf ds vs → RepL K m Hf es zs → RepL K m Hf (gD ds es) (g vs zs)
/-- a def that keeps its promise -/
structure FK (P : Program) (w : World) (K : PySem.W.Frag) (mg : Str → Option Value) (base : Heap) (k : Nat) (x : Str) (params : Arguments) (body : List Stmt) (scope : Scope) (dvs : List V) (kws : List (Str × V)) (ps : List Str) (F : Fn) : Prop where
  ex : ∃ fd, FnG P w K mg base k (He.ga K x) fd ps F ∧ FunD K x x params body scope dvs kws (He.ga K x) fd
  mg_ : mg x = some (.ref (He.ga K x))
theorem FK.mono {P : Program} {w : World} {K : PySem.W.Frag} {mg : Str → Option Value} {base : Heap} {j k : Nat} {x : Str} {params : Arguments} {body : List Stmt} {scope : Scope} {dvs : List V} {kws : List (Str × V)} {ps : List Str} {F : Fn}
    (o : FK P w K mg base j x params body scope dvs kws ps F) (h : j ≤ k) : FK P w K mg base k x params body scope dvs kws ps F := ⟨let ⟨fd, a, b⟩ := o.ex; ⟨fd, a.mono h, b⟩, o.mg_⟩
theorem FK.imp {P : Program} {w : World} {K : PySem.W.Frag} {mg : Str → Option Value} {base : Heap} {k : Nat} {x : Str} {params : Arguments} {body : List Stmt} {scope : Scope} {dvs : List V} {kws : List (Str × V)} {ps : List Str} {F G : Fn}
    (o : FK P w K mg base k x params body scope dvs kws ps F) (h : ∀ ds s, G ds s = .stuck ∨ F ds s = G ds s) : FK P w K mg base k x params body scope dvs kws ps G := ⟨let ⟨fd, a, b⟩ := o.ex; ⟨fd, fn_imp a h, b⟩, o.mg_⟩
/-- the promise, from the body's run -/
theorem fk_ok {P : Program} {w : World} {K : PySem.W.Frag} {mg : Str → Option Value} {base : Heap} {x : Str} {params : Arguments} {body : List Stmt} {scope : Scope} {dvs : List V} {kws : List (Str × V)} {N ps : List Str} {k : Nat} {fb : MS}
    (F : ∃ fd, FunD K x x params body scope dvs kws (He.ga K x) fd) (hg : mg x = some (.ref (He.ga K x))) (S : FnScope N ps scope)
    (hb : ∀ (f : Addr) (cdv : Value) (A : Around) (outer : List Env) (s : Shared) (H : Hp) (E : XK), RoomG k (A.deeper (envOfC x scope s.heap.objs.size f cdv)) → JSs (cxOf (L2.CX P w) P w K mg base N x scope f cdv A outer s H E) body fb) :
    FK P w K mg base (k + 1) x params body scope dvs kws ps (mkFn N.length fb) := ⟨let ⟨fd, q⟩ := F; ⟨fd, fn_ok q S (hb _), q⟩, hg⟩
/-- np values are handed over, all of them written -/
def mCallU (np : Nat) (F : Fn) (fa : MA) : ME := fun ρ s => (fa ρ s).bind fun ds s1 => if ds.length = np then F ds s1 else .stuck
def mCallD (np n : Nat) (g : List D → List D → List D) (F : Fn) (fa : MA) : ME := fun ρ s => (fa ρ s).bind fun ds s1 => if ds.length = np ∧ (g ds []).length = n then F (g ds []) s1 else .stuck
def mCallK (np nk n : Nat) (g : List D → List D → List D) (F : Fn) (fa fk : MA) : ME := fun ρ s => (fa ρ s).bind fun ds s1 => (fk ρ s1).bind fun ws s2 => if ds.length = np ∧ ws.length = nk ∧ (g ds ws).length = n then F (g ds ws) s2 else .stuck
section
variable {X : Cx} {k : Nat} {f : Addr} {fd : FuncData} {ps : List Str} {F : Fn} {x : Str} {p pos : Pos} {e : Expr} {es : List Expr} {fa : MA} {dvs : List V} {params : Arguments} {body : List Stmt} {scope : Scope} {kws : List (Str × V)} {np : Nat} {ks : List Str} {gD : List D → List D → List D}
theorem spF_of {m : CM} {Hf H : Hp} {s : Sto} {ds : List D} {vs : List V} {Q : VK} {E : XK} {K : PySem.W.Frag} {n : Nat} (R0 : Rel K m Hf s H) (r : RepL K m Hf ds vs) (h : Post K m Hf (Rep K) Q E (if ds.length = n then F ds s else .stuck)) : spF K n F vs H Q E := by
  by_cases hl : ds.length = n
  · rw [if_pos hl] at h
    exact ⟨by rw [r.length]; exact hl, m, Hf, s, ds, R0, r, h⟩
  · rw [if_neg hl] at h; exact h.elim
/-- the call of a def whose promise is known, its values bound -/
theorem run_G {E : XK} {pins : List (Addr × Obj)} {σ : L2.St} {H : Hp} {s : Shared} {Q : VK} {us us' : List Value} {kw : List (Str × Value)} {vs : List V} (o : FnG X.prog X.w X.K X.mg X.base k f fd ps F) (hr : RoomG k X.A) (hb : BindsTo s fd ⟨us', kw⟩ (ps.zip us)) (hx : PassesAt (L2.CX X.prog X.w) X σ E)
    (I : Inv X pins σ H s) (r : Vals vs us) (h : spF X.K ps.length F vs H Q E) : wpAny (model X.prog X.w) X.A (call (.ref f) us' kw) (EP X pins σ Q) X.xe s := by
  refine wpAny_call (codeAny_mono (o.run X.A X.stack s H ⟨us', kw⟩ us vs Q E hr I.env0 hb r h) fun r s' hq => ?_)
  cases r with
  | error e => exact hx pins H s e s' I hq
  | ok fl =>
    cases fl with
    | ret u => exact I.after hq
    | next => exact False.elim hq
    | brk => exact False.elim hq
    | cont => exact False.elim hq

theorem bd_n {K : PySem.W.Frag} (h : ∀ (kV doc pm : Value) (an : Option Addr) (cdv ct : Value) (us : List Value), us.length = ps.length → bindArgs (PySem.W.fnOf x x params body scope .none kV doc pm an cdv ct) ⟨us, []⟩ = pure (ps.zip us)) :
    ∀ fd, FunD K x x params body scope [] kws (He.ga K x) fd → BD K fd ps ps.length [] (fun ds _ => ds) := fun fd F => by
  refine ⟨fun us _ => us, fun vs _ => vs, fun s us ws X hl hw => ?_, fun _ _ _ _ r _ => r, fun _ _ _ _ _ _ r _ => r⟩
  have := F.bindsN h s us X (by rw [List.append_nil]; exact hl)
  rw [List.append_nil] at this
  exact this
theorem bd_k {K : PySem.W.Frag} {G : List Value → List Value → List Value} {g : List V → List V → List V} (hb : KBn K fd ps np ks G g) (hr : ∀ (m : CM) (Hf : Hp) (ds : List D) (vs : List V) (es : List D) (zs : List V), RepL K m Hf ds vs → RepL K m Hf es zs → RepL K m Hf (gD ds es) (g vs zs)) : BD K fd ps np ks gD :=
  ⟨G, g, hb.to, fun _ _ _ _ r1 r2 => hb.rel r1 r2, hr⟩
theorem je_callX {W : WX} (tk : Takes X W) {m : CM} {Hf H : Hp} {ρ : Env'} {σ : L2.St} {s : Sto} {Q : VK} (hen : EnvOk X.K m Hf ρ σ) (R : Rel X.K m Hf s H) (o : FK X.prog X.w X.K X.mg X.base k x params body scope dvs kws ps F) (hr : RoomG k X.A) (hg : Gl X x)
    (bd : ∀ fd, FunD X.K x x params body scope dvs kws (He.ga X.K x) fd → BD X.K fd ps np [] gD) (ha : JA X (e :: es) fa) (h : Post X.K m Hf (Rep X.K) Q (EW W σ) ((fa ρ s).bind fun ds s1 => if ds.length = np then (if (gD ds []).length = ps.length then F (gD ds []) s1 else .stuck) else .stuck))
    (hdb : (x == ("__debug__" : Str)) = false) (he : starEach (e :: es) X.env = (false, eval e X.env) :: starEach es X.env) (hpl : (backTo pos (starEach es X.env)).any (·.1) = false) : tWE X (.Call (.Name x p) (e :: es) [] pos) σ H Q := fun pins s' I => by
  obtain ⟨fd, oF, FD⟩ := o.ex
  obtain ⟨G, g, b1, b2, b3⟩ := (bd fd FD).ex
  refine wpAny_Call_Name_kw (ld_glob I hg o.mg_ ?_ hdb)
  refine PySem.W.callWith_K (h₀ := X.base) I.ok.mod.kin FD.kp (thn (ha.run W tk m Hf ρ σ s H (fun vs H1 => vs.length = np ∧ spF X.K ps.length F (g vs []) H1 Q (WE W σ)) hen R (Post.bind h fun ds s1 m1 Hf1 H1 vs e1 e2 R1 r1 h1 => ?_) pos pins s' I) fun us s1 ⟨vs, H1, I1, r, hl, q⟩ => ⟨I1.kIn, ?_⟩) he hpl
  · by_cases hl : ds.length = np
    · rw [if_pos hl] at h1
      exact ⟨by rw [r1.length]; exact hl, spF_of R1 (b3 _ _ _ _ _ _ r1 RepL.nil) h1⟩
    · rw [if_neg hl] at h1; exact h1.elim
  · exact run_G oF hr (b1 s1 us [] I1.kIn (r.length.symm.trans hl) rfl) (passAt tk σ) I1 (b2 _ _ _ _ r .nil) q
theorem je_call (o : FK X.prog X.w X.K X.mg X.base k x params body scope dvs kws ps F) (hr : RoomG k X.A) (hg : Gl X x) (bd : ∀ fd, FunD X.K x x params body scope dvs kws (He.ga X.K x) fd → BD X.K fd ps ps.length [] (fun ds _ => ds))
    (ha : JA X (e :: es) fa) (hdb : (x == ("__debug__" : Str)) = false := by decide) (he : starEach (e :: es) X.env = (false, eval e X.env) :: starEach es X.env := by rfl) (hpl : (backTo pos (starEach es X.env)).any (·.1) = false := by rfl) :
    JE X (.Call (.Name x p) (e :: es) [] pos) (mCallU ps.length F fa) := ⟨fun W tk m Hf ρ σ s H Q hen R h => je_callX tk hen R o hr hg bd ha (by
      unfold mCallU at h
      cases q : fa ρ s with
      | ok ds s1 =>
        rw [q] at h
        simp only [Bw.R.bind_ok] at h ⊢
        by_cases hl : ds.length = ps.length
        · rw [if_pos hl] at h; rw [if_pos hl, if_pos hl]; exact h
        · rw [if_neg hl] at h; exact h.elim
      | ex c fs s1 => rw [q] at h; exact h
      | stuck => rw [q] at h; exact h) hdb he hpl⟩
theorem je_callD (o : FK X.prog X.w X.K X.mg X.base k x params body scope dvs kws ps F) (hr : RoomG k X.A) (hg : Gl X x) (bd : ∀ fd, FunD X.K x x params body scope dvs kws (He.ga X.K x) fd → BD X.K fd ps np [] gD)
    (ha : JA X (e :: es) fa) (hdb : (x == ("__debug__" : Str)) = false := by decide) (he : starEach (e :: es) X.env = (false, eval e X.env) :: starEach es X.env := by rfl) (hpl : (backTo pos (starEach es X.env)).any (·.1) = false := by rfl) :
    JE X (.Call (.Name x p) (e :: es) [] pos) (mCallD np ps.length gD F fa) := ⟨fun W tk m Hf ρ σ s H Q hen R h => je_callX tk hen R o hr hg bd ha (by
      unfold mCallD at h
      cases q : fa ρ s with
      | ok ds s1 =>
        rw [q] at h
        simp only [Bw.R.bind_ok] at h ⊢
        by_cases hl : ds.length = np ∧ (gD ds []).length = ps.length
        · rw [if_pos hl] at h; rw [if_pos hl.1, if_pos hl.2]; exact h
        · rw [if_neg hl] at h; exact h.elim
      | ex c fs s1 => rw [q] at h; exact h
      | stuck => rw [q] at h; exact h) hdb he hpl⟩
theorem je_call0 (o : FK X.prog X.w X.K X.mg X.base k x params body scope dvs kws ps F) (hr : RoomG k X.A) (hg : Gl X x) (bd : ∀ fd, FunD X.K x x params body scope dvs kws (He.ga X.K x) fd → BD X.K fd ps 0 [] gD)
    (hdb : (x == ("__debug__" : Str)) = false := by decide) : JE X (.Call (.Name x p) [] [] pos) (mCallD 0 ps.length gD F mNil) := ⟨fun W tk m Hf ρ σ s H Q hen R h pins s' I => by
  obtain ⟨fd, oF, FD⟩ := o.ex
  obtain ⟨G, g, b1, b2, b3⟩ := (bd fd FD).ex
  refine wpAny_Call_Name_kw (ld_glob I hg o.mg_ ?_ hdb)
  have h' : Post X.K m Hf (Rep X.K) Q (EW W σ) (if ([] : List D).length = 0 ∧ (gD [] []).length = ps.length then F (gD [] []) s else .stuck) := h
  by_cases hl : ([] : List D).length = 0 ∧ (gD [] []).length = ps.length
  · rw [if_pos hl] at h'
    exact PySem.W.callWith_K0 I.kIn FD.kp (run_G (E := WE W σ) oF hr (b1 s' [] [] I.kIn rfl rfl) (passAt tk σ) I (b2 _ _ _ _ .nil .nil) (spF_of R (b3 _ _ _ _ _ _ RepL.nil RepL.nil) (by rw [if_pos hl.2]; exact h')))
  · rw [if_neg hl] at h'; exact h'.elim⟩
theorem RepL.paired {K : PySem.W.Frag} {m : CM} {Hf : Hp} : ∀ {ds : List D} {vs : List V}, RepL K m Hf ds vs ↔ Paired (Rep K m Hf) ds vs
  | [], vs => ⟨fun h => by rw [h.nilI]; exact .nil, fun h => by cases h; exact RepL.nil⟩
  | d :: ds, vs => ⟨fun h => by obtain ⟨v, r, rfl, h1, h2⟩ := h.consI; exact .cons h1 (RepL.paired.mp h2), fun h => by cases h with | cons a b => exact RepL.cons a (RepL.paired.mpr b)⟩
/-- the keywords' values -/
structure JK (X : Cx) (kws : List Keyword) (f : MA) : Prop where
  run : ∀ (W : WX), Takes X W → ∀ (m : CM) (Hf : Hp) (ρ : Env') (σ : L2.St) (s : Sto) (H : Hp) (Q : List V → Hp → Prop), EnvOk X.K m Hf ρ σ → Rel X.K m Hf s H → Post X.K m Hf (RepL X.K) Q (EW W σ) (f ρ s) →
    ∀ (pos : Pos) pins s', Inv X pins σ H s' → wpAny (model X.prog X.w) X.A (evalAll ((backToKw pos (keywordEach kws X.env)).map (·.2))) (AP X pins σ Q) X.xe s'
def tWK (X : Cx) (kws : List Keyword) : TA := fun σ H Q => ∀ (pos : Pos) pins s', Inv X pins σ H s' → wpAny (model X.prog X.w) X.A (evalAll ((backToKw pos (keywordEach kws X.env)).map (·.2))) (AP X pins σ Q) X.xe s'
theorem pk_W {kws : List Keyword} : PK X kws (tWK X kws) := ⟨fun pos pins s σ H Q I h => h pos pins s I⟩
theorem jk_nil : JK X [] mNil := ⟨fun W tk m Hf ρ σ s H Q he R h pos pins s' I => pk_nil.run pos pins s' σ H Q I (h.ok R RepL.nil)⟩
theorem jk_cons {nm : Option Str} {kpos : Pos} {kws : List Keyword} {fe : ME} (ha : JE X e fe) (hr : JK X kws fa) : JK X (⟨nm, e, kpos⟩ :: kws) (mCons fe fa) := ⟨fun W tk m Hf ρ σ s H Q he R h pos pins s' I => by
  refine (pk_cons pe_W pk_W).run pos pins s' σ H Q I (ha.run W tk m Hf ρ σ s H _ he R (Post.bind h fun d s1 m1 Hf1 H1 v e1 e2 R1 r1 h1 => ?_))
  refine hr.run W tk m1 Hf1 ρ σ s1 H1 _ (he.mono e1 e2) R1 (Post.bind h1 fun ds s2 m2 Hf2 H2 vs e3 e4 R2 r2 h2 => ?_)
  exact h2.ok R2 (RepL.cons (r1.mono e3 e4) r2)⟩

/-- f(k = v, ..): no positional ones -/
theorem je_callK0 {nk : Nat} {kwl : List Keyword} {fk : MA} (o : FK X.prog X.w X.K X.mg X.base k x params body scope dvs kws ps F) (hr : RoomG k X.A) (hg : Gl X x) (bd : ∀ fd, FunD X.K x x params body scope dvs kws (He.ga X.K x) fd → BD X.K fd ps 0 ks gD)
    (hkw : JK X kwl fk) (hnk : ks.length = nk := by rfl) (hall : (backToKw pos (keywordEach kwl X.env)).all (·.1.isSome) = true := by rfl) (hks : (backToKw pos (keywordEach kwl X.env)).filterMap (·.1) = ks := by rfl)
    (hdb : (x == ("__debug__" : Str)) = false := by decide)
    (hpl : ((backTo pos (starEach [] X.env)).any (·.1) || (backToKw pos (keywordEach kwl X.env)).any (·.1.isNone)) = false := by rfl) :
    JE X (.Call (.Name x p) [] kwl pos) (mCallK 0 nk ps.length gD F mNil fk) := ⟨fun W tk m Hf ρ σ s H Q hen R h pins s' I => by
  obtain ⟨fd, oF, FD⟩ := o.ex
  obtain ⟨G, g, b1, b2, b3⟩ := (bd fd FD).ex
  refine wpAny_Call_Name_kw (ld_glob I hg o.mg_ ?_ hdb)
  refine PySem.W.callWith_KW0 (h₀ := X.base) I.ok.mod.kin FD.kp hall ?_ hpl
  have h' : Post X.K m Hf (Rep X.K) Q (EW W σ) ((fk ρ s).bind fun ws s2 => if ([] : List D).length = 0 ∧ ws.length = nk ∧ (gD [] ws).length = ps.length then F (gD [] ws) s2 else .stuck) := h
  refine thn (hkw.run W tk m Hf ρ σ s H (fun zs H2 => zs.length = ks.length ∧ spF X.K ps.length F (g [] zs) H2 Q (WE W σ)) hen R (Post.bind h' fun ws s2 m2 Hf2 H2 zs e3 e4 R2 r2 h2 => ?_) pos pins s' I) fun ws s2 ⟨zs, H2, I2, rz, l2, q2⟩ => ⟨I2.kIn, ?_⟩
  · by_cases hc : ([] : List D).length = 0 ∧ ws.length = nk ∧ (gD [] ws).length = ps.length
    · rw [if_pos hc] at h2
      exact ⟨by rw [r2.length, hc.2.1, hnk], spF_of R2 (b3 _ _ _ _ _ _ RepL.nil r2) (by rw [if_pos hc.2.2]; exact h2)⟩
    · rw [if_neg hc] at h2; exact h2.elim
  · rw [hks]
    exact run_G oF hr (b1 s2 [] ws I2.kIn rfl (rz.length.symm.trans l2)) (passAt tk σ) I2 (b2 _ _ _ _ .nil rz) q2⟩
theorem je_callK {nk : Nat} {kwl : List Keyword} {fk : MA} (o : FK X.prog X.w X.K X.mg X.base k x params body scope dvs kws ps F) (hr : RoomG k X.A) (hg : Gl X x) (bd : ∀ fd, FunD X.K x x params body scope dvs kws (He.ga X.K x) fd → BD X.K fd ps np ks gD)
    (ha : JA X (e :: es) fa) (hkw : JK X kwl fk) (hnk : ks.length = nk := by rfl) (hall : (backToKw pos (keywordEach kwl X.env)).all (·.1.isSome) = true := by rfl) (hks : (backToKw pos (keywordEach kwl X.env)).filterMap (·.1) = ks := by rfl)
    (hdb : (x == ("__debug__" : Str)) = false := by decide) (he : starEach (e :: es) X.env = (false, eval e X.env) :: starEach es X.env := by rfl)
    (hpl : ((backTo pos (starEach (e :: es) X.env)).any (·.1) || (backToKw pos (keywordEach kwl X.env)).any (·.1.isNone)) = false := by rfl) :
    JE X (.Call (.Name x p) (e :: es) kwl pos) (mCallK np nk ps.length gD F fa fk) := ⟨fun W tk m Hf ρ σ s H Q hen R h pins s' I => by
  obtain ⟨fd, oF, FD⟩ := o.ex
  obtain ⟨G, g, b1, b2, b3⟩ := (bd fd FD).ex
  refine wpAny_Call_Name_kw (ld_glob I hg o.mg_ ?_ hdb)
  refine PySem.W.callWith_KW (h₀ := X.base) I.ok.mod.kin FD.kp hall ?_ hpl he
  refine thn (ha.run W tk m Hf ρ σ s H (fun vs H1 => tWK X kwl σ H1 (fun zs H2 => vs.length = np ∧ zs.length = ks.length ∧ spF X.K ps.length F (g vs zs) H2 Q (WE W σ))) hen R (Post.bind h fun ds s1 m1 Hf1 H1 vs e1 e2 R1 r1 h1 => ?_) pos pins s' I) fun us s1 ⟨vs, H1, I1, rv, q1⟩ => thn (q1 pos pins s1 I1) fun ws s2 ⟨zs, H2, I2, rz, l1, l2, q2⟩ => ⟨I2.kIn, ?_⟩
  · refine fun pos pins s' I => hkw.run W tk m1 Hf1 ρ σ s1 H1 _ (hen.mono e1 e2) R1 (Post.bind h1 fun ws s2 m2 Hf2 H2 zs e3 e4 R2 r2 h2 => ?_) pos pins s' I
    by_cases hc : ds.length = np ∧ ws.length = nk ∧ (gD ds ws).length = ps.length
    · rw [if_pos hc] at h2
      exact ⟨by rw [r1.length, hc.1], by rw [r2.length, hc.2.1, hnk], spF_of R2 (b3 _ _ _ _ _ _ (r1.mono e3 e4) r2) (by rw [if_pos hc.2.2]; exact h2)⟩
    · rw [if_neg hc] at h2; exact h2.elim
  · rw [hks]
    exact run_G oF hr (b1 s2 us ws I2.kIn (rv.length.symm.trans l1) (rz.length.symm.trans l2)) (passAt tk σ) I2 (b2 _ _ _ _ rv rz) q2⟩
end
end Bw

namespace Bw
open PySem PySem.Spec PyProof.Rows L2

/-! ### data, read off the heap -/
mutual
/-- u is p; no dict of it is the interpreter's own one -/
inductive RdS (h : Heap) : Value → PyData → Prop
  | none : RdS h .none .none
  | bool (b : Bool) : RdS h (.bool b) (.bool b)
  | int (i : Int) (t : Tok) : RdS h (.int i t) (.int i)
  | str (x : Str) (t : Tok) : RdS h (.str x t) (.str x)
  | list {a : Addr} {o : Obj} {vs : Array Value} {n : Nat} {xs : List PyData} : h.get? a = some o → o.cls = .type "list" → o.data = .seq vs n → RdSs h vs.toList xs → RdS h (.ref a) (.list xs)
  | tuple {a : Addr} {o : Obj} {vs : Array Value} {n : Nat} {xs : List PyData} : h.get? a = some o → o.cls = .type "tuple" → o.data = .seq vs n → RdSs h vs.toList xs → RdS h (.ref a) (.tuple xs)
  | dict {a : Addr} {o : Obj} {es : Array DictEntry} {n : Nat} {kvs : List (PyData × PyData)} : h.get? a = some o → o.cls = .type "dict" → o.data = .dict es n → (a == sysModules) = false → RdSs h (es.toList.map (·.key)) (kvs.map (·.1)) → RdSs h (es.toList.map (·.val)) (kvs.map (·.2)) → RdS h (.ref a) (.dict kvs)
inductive RdSs (h : Heap) : List Value → List PyData → Prop
  | nil : RdSs h [] []
  | cons {v : Value} {vs : List Value} {d : PyData} {ds : List PyData} : RdS h v d → RdSs h vs ds → RdSs h (v :: vs) (d :: ds)
end
mutual
theorem RdS.reads {h : Heap} : ∀ {v : Value} {d : PyData}, RdS h v d → ∃ as, Reads h v d as
  | _, _, .none => ⟨_, .none⟩
  | _, _, .bool b => ⟨_, .bool b⟩
  | _, _, .int i t => ⟨_, .int i t⟩
  | _, _, .str x t => ⟨_, .str x t⟩
  | _, _, .list h1 h2 h3 h4 => let ⟨_, r⟩ := h4.reads; ⟨_, .list h1 h2 h3 r⟩
  | _, _, .tuple h1 h2 h3 h4 => let ⟨_, r⟩ := h4.reads; ⟨_, .tuple h1 h2 h3 r⟩
  | _, _, .dict h1 h2 h3 _ h4 h5 => let ⟨_, r⟩ := h4.reads; let ⟨_, r'⟩ := h5.reads; ⟨_, .dict h1 h2 h3 r r'⟩
theorem RdSs.reads {h : Heap} : ∀ {vs : List Value} {ds : List PyData}, RdSs h vs ds → ∃ as, ReadsAll h vs ds as
  | _, _, .nil => ⟨_, .nil⟩
  | _, _, .cons h1 h2 => let ⟨_, r⟩ := h1.reads; let ⟨_, r'⟩ := h2.reads; ⟨_, .cons r r'⟩
end
section
variable {P : Program} {w : World} {h : Heap}
mutual
theorem RdS.shown : ∀ {v : Value} {d : PyData}, RdS h v d → d.showable = true → d.shown.length ≤ sizeLine → ∃ bs, ReadAtMost h d.depth bs ∧ ReprK P w bs h d.depth v d.shown
  | _, _, .none, _, _ => ⟨[], (fun _ h => nomatch h), by simp only [PyData.shown]; exact .of_is ReprIs.none _ _ _⟩
  | _, _, .bool b, _, _ => ⟨[], (fun _ h => nomatch h), by simp only [PyData.shown]; exact .of_is (ReprIs.bool b) _ _ _⟩
  | _, _, .int i t, hs, _ => ⟨[], (fun _ h => nomatch h), by simp only [PyData.shown]; exact .of_is (ReprIs.int t (by simpa [PyData.showable] using hs)) _ _ _⟩
  | _, _, .str x t, _, hz => ⟨[], (fun _ h => nomatch h), by simp only [PyData.shown]; exact .of_is (ReprIs.str x t (by simpa only [PyData.shown] using hz)) _ _ _⟩
  | _, _, .list (a := a) (vs := vs) (xs := xs) h1 h2 h3 h4, hs, hz => by
    have hz' : (listText (PyData.shownAll xs)).length ≤ sizeLine := by simpa only [PyData.shown] using hz
    obtain ⟨bs, hb, hk⟩ := h4.shown (by simpa [PyData.showable] using hs) (fun t ht => Nat.le_trans (listText_mem_le ht) hz')
    obtain ⟨_, r⟩ := (RdS.list h1 h2 h3 h4).reads
    have hna : a ∉ bs := not_mem_of_deeper r (by simp only [PyData.depth]; omega) hb
    refine ⟨a :: bs, ReadAtMost.cons r (by simp only [PyData.depth]; omega) hb, ?_⟩
    simp only [PyData.depth, PyData.shown]
    obtain ⟨l⟩ := vs
    cases l with
    | nil =>
      have h4' : RdSs h [] xs := h4
      cases h4'
      simp only [PyData.shownAll, listText_nil]
      exact ReprK.listEmpty h1 h2 h3
    | cons x l => exact ReprK.list h1 h2 h3 hna (by simpa using hk.length_eq) (fun i y e => hk.item i y (by simpa using e))
  | _, _, .tuple (a := a) (xs := xs) h1 h2 h3 h4, hs, hz => by
    have hz' : (tupleText (PyData.shownAll xs)).length ≤ sizeLine := by simpa only [PyData.shown] using hz
    obtain ⟨bs, hb, hk⟩ := h4.shown (by simpa [PyData.showable] using hs) (fun t ht => Nat.le_trans (tupleText_mem_le ht) hz')
    obtain ⟨_, r⟩ := (RdS.tuple h1 h2 h3 h4).reads
    have hna : a ∉ bs := not_mem_of_deeper r (by simp only [PyData.depth]; omega) hb
    refine ⟨a :: bs, ReadAtMost.cons r (by simp only [PyData.depth]; omega) hb, ?_⟩
    simp only [PyData.depth, PyData.shown]
    exact ReprK.tuple h1 h2 h3 hna hk
  | _, _, .dict (a := a) (es := es) (kvs := kvs) h1 h2 h3 hsys h4 h5, hs, hz => by
    have hz' : (dictText (PyData.shownKv kvs)).length ≤ sizeLine := by simpa only [PyData.shown] using hz
    obtain ⟨hs1, hs2⟩ := PyData.showableKv_split kvs (by simpa [PyData.showable] using hs)
    obtain ⟨b1, hb1, k1⟩ := h4.shown hs1 (fun t ht => let ⟨p, hp, hl⟩ := PyData.shownKv_key_le kvs t ht; Nat.le_trans hl (Nat.le_trans (dictText_mem_le hp) hz'))
    obtain ⟨b2, hb2, k2⟩ := h5.shown hs2 (fun t ht => let ⟨p, hp, hl⟩ := PyData.shownKv_val_le kvs t ht; Nat.le_trans hl (Nat.le_trans (dictText_mem_le hp) hz'))
    obtain ⟨_, r⟩ := (RdS.dict h1 h2 h3 hsys h4 h5).reads
    have hb : ReadAtMost h (PyData.depthKv kvs) (b1 ++ b2) := (hb1.mono (PyData.depthAll_keys_le kvs)).append (hb2.mono (PyData.depthAll_vals_le kvs))
    have hna : a ∉ b1 ++ b2 := not_mem_of_deeper r (by simp only [PyData.depth]; omega) hb
    refine ⟨a :: (b1 ++ b2), ReadAtMost.cons r (by simp only [PyData.depth]; omega) hb, ?_⟩
    simp only [PyData.depth, PyData.shown, PyData.shownKv_eq]
    exact ReprK.dict h1 h2 h3 hsys hna (ReprEntriesK.of_two es.toList _ _
      (k1.more_le (fun b hb => List.mem_append_left _ hb) (PyData.depthAll_keys_le kvs)) (k2.more_le (fun b hb => List.mem_append_right _ hb) (PyData.depthAll_vals_le kvs)))
theorem RdSs.shown : ∀ {vs : List Value} {ds : List PyData}, RdSs h vs ds → PyData.showableAll ds = true → (∀ t ∈ PyData.shownAll ds, t.length ≤ sizeLine) →
    ∃ bs, ReadAtMost h (PyData.depthAll ds) bs ∧ ReprAllK P w bs h (PyData.depthAll ds) vs (PyData.shownAll ds)
  | _, _, .nil, _, _ => ⟨[], (fun _ h => nomatch h), by simp only [PyData.shownAll]; exact .nil⟩
  | _, _, .cons (d := d) (ds := ds) r rs, hs, hz => by
    have hs' : d.showable = true ∧ PyData.showableAll ds = true := by simpa [PyData.showableAll] using hs
    obtain ⟨b1, hb1, k1⟩ := r.shown hs'.1 (hz _ (by simp only [PyData.shownAll]; exact List.mem_cons_self ..))
    obtain ⟨b2, hb2, k2⟩ := rs.shown hs'.2 (fun t ht => hz t (by simp only [PyData.shownAll]; exact List.mem_cons_of_mem _ ht))
    refine ⟨b1 ++ b2, ?_, ?_⟩
    · simp only [PyData.depthAll]
      exact (hb1.mono (Nat.le_max_left _ _)).append (hb2.mono (Nat.le_max_right _ _))
    · simp only [PyData.depthAll, PyData.shownAll]
      exact .cons ((k1.more fun b hb => List.mem_append_left _ hb).level_le (Nat.le_max_left _ _)) (k2.more_le (fun b hb => List.mem_append_right _ hb) (Nat.le_max_right _ _))
end
/-- repr(v) -/
theorem RdS.repr {v : Value} {d : PyData} (r : RdS h v d) (hs : d.showable = true) (hz : d.shown.length ≤ sizeLine) {A : Around} {E : Value → Shared → Prop} {s : Shared} {Q : Value → Shared → Prop} (hg : A.guards = some []) (hu : A.units + (d.depth + 2) < cLine)
    (hk0 : ∀ b o, h.get? b = some o → s.heap.get? b = some o) (hQ : ∀ h' u tk, (∀ b o, s.heap.get? b = some o → h'.get? b = some o) → Q (.str d.shown u) { s with heap := h', toks := tk }) : wpAny (model P w) A (call (.builtin "repr") [v]) Q E s := by
  have hg' : A.in1.guards = some [] := hg
  cases r with
  | none => exact PySem.P.repr_of_none (hQ s.heap _ _ fun _ _ e => e)
  | bool b => exact PySem.P.repr_of_bool (by simpa only [PyData.shown] using hQ s.heap _ _ fun _ _ e => e)
  | int i t => exact PySem.P.repr_of_int (by simpa [PyData.showable] using hs) (by simpa only [PyData.shown] using hQ s.heap _ _ fun _ _ e => e)
  | str x t => exact PySem.P.repr_of_str (by simpa only [PyData.shown] using hQ s.heap _ _ fun _ _ e => e) (by simpa only [PyData.shown] using hz)
  | list h1 h2 h3 h4 =>
    rename_i a o vs n xs
    have hz' : (listText (PyData.shownAll xs)).length ≤ sizeLine := by simpa only [PyData.shown] using hz
    obtain ⟨bs, hb, hk⟩ := h4.shown (P := P) (w := w) (by simpa [PyData.showable] using hs) (fun t ht => Nat.le_trans (listText_mem_le ht) hz')
    obtain ⟨_, r⟩ := (RdS.list h1 h2 h3 h4).reads
    have hna : a ∉ bs := not_mem_of_deeper r (by simp only [PyData.depth]; omega) hb
    simp only [PyData.depth] at hu
    simp only [PyData.shown] at hQ
    refine call_repr_slot (by omega) ⟨o, hk0 _ _ h1, h2⟩ PySem.F.slot_list_repr.toG ?_
    obtain ⟨l⟩ := vs
    cases l with
    | nil =>
      have h4' : RdSs h [] xs := h4
      cases h4'
      simp only [PyData.shownAll, listText_nil] at hQ
      exact call_list_repr_empty ⟨o, hk0 _ _ h1, h2⟩ (hk0 _ _ h1) h3 ⟨_, _, rfl, hQ s.heap _ _ fun _ _ e => e⟩
    | cons x l =>
      exact call_list_reprK h1 h2 h3 hna (by simpa using hk.length_eq) (fun i y e => hk.item i y (by simpa using e)) hg' (fun b _ => Clear.nil b) (by show A.units + 1 + _ < _; omega) hk0 (fun h' u tk hk => ⟨_, _, rfl, hQ h' u tk hk⟩) hz'
  | tuple h1 h2 h3 h4 =>
    rename_i a o vs n xs
    have hz' : (tupleText (PyData.shownAll xs)).length ≤ sizeLine := by simpa only [PyData.shown] using hz
    obtain ⟨bs, hb, hk⟩ := h4.shown (P := P) (w := w) (by simpa [PyData.showable] using hs) (fun t ht => Nat.le_trans (tupleText_mem_le ht) hz')
    obtain ⟨_, r⟩ := (RdS.tuple h1 h2 h3 h4).reads
    have hna : a ∉ bs := not_mem_of_deeper r (by simp only [PyData.depth]; omega) hb
    simp only [PyData.depth] at hu
    simp only [PyData.shown] at hQ
    exact call_repr_slot (by omega) ⟨o, hk0 _ _ h1, h2⟩ PySem.F.slot_tuple_repr (call_tuple_reprK h1 h2 h3 hna hk hg' (fun b _ => Clear.nil b) (by show A.units + 1 + _ < _; omega) hk0 (fun h' u tk hk => ⟨_, _, rfl, hQ h' u tk hk⟩) hz')
  | dict h1 h2 h3 hsys h4 h5 =>
    rename_i a o es n kvs
    have hz' : (dictText (PyData.shownKv kvs)).length ≤ sizeLine := by simpa only [PyData.shown] using hz
    obtain ⟨hs1, hs2⟩ := PyData.showableKv_split kvs (by simpa [PyData.showable] using hs)
    obtain ⟨b1, hb1, k1⟩ := h4.shown (P := P) (w := w) hs1 (fun t ht => let ⟨p, hp, hl⟩ := PyData.shownKv_key_le kvs t ht; Nat.le_trans hl (Nat.le_trans (dictText_mem_le hp) hz'))
    obtain ⟨b2, hb2, k2⟩ := h5.shown (P := P) (w := w) hs2 (fun t ht => let ⟨p, hp, hl⟩ := PyData.shownKv_val_le kvs t ht; Nat.le_trans hl (Nat.le_trans (dictText_mem_le hp) hz'))
    obtain ⟨_, r⟩ := (RdS.dict h1 h2 h3 hsys h4 h5).reads
    have hb : ReadAtMost h (PyData.depthKv kvs) (b1 ++ b2) := (hb1.mono (PyData.depthAll_keys_le kvs)).append (hb2.mono (PyData.depthAll_vals_le kvs))
    have hna : a ∉ b1 ++ b2 := not_mem_of_deeper r (by simp only [PyData.depth]; omega) hb
    simp only [PyData.depth] at hu
    simp only [PyData.shown, PyData.shownKv_eq] at hQ
    exact call_repr_slot (by omega) ⟨o, hk0 _ _ h1, h2⟩ PySem.F.slot_dict_repr (call_dict_reprK h1 h2 h3 hsys hna (ReprEntriesK.of_two es.toList _ _
      (k1.more_le (fun b hb => List.mem_append_left _ hb) (PyData.depthAll_keys_le kvs)) (k2.more_le (fun b hb => List.mem_append_right _ hb) (PyData.depthAll_vals_le kvs))) hg' (fun b _ => Clear.nil b) (by show A.units + 1 + _ < _; omega) hk0 (fun h' u tk hk => ⟨_, _, rfl, hQ h' u tk hk⟩) (by rw [← PyData.shownKv_eq]; exact hz'))
end

/-! ### a D as data -/
def keyP : Key → PyData
  | .inl i => .int i
  | .inr x => .str x
def scP : D → Option PyData
  | .non => some .none
  | .bl b => some (.bool b)
  | .int i => some (.int i)
  | .str x => some (.str x)
  | _ => none
def pyL (f : D → Option PyData) : List D → Option (List PyData)
  | [] => some []
  | d :: ds => match f d, pyL f ds with
    | some p, some ps => some (p :: ps)
    | _, _ => none
def pyN (t : Tag) (ps : List PyData) : Option PyData := match t with
  | .lst => some (.list ps)
  | .sq => some (.list ps)
  | .tup => some (.tuple ps)
  | .dK ks => some (.dict ((ks.map keyP).zip ps))
  | .dT ks => some (.dict ((ks.map fun k => .tuple (k.map keyP)).zip ps))
  | .ins _ _ => none
def pyD (s : Sto) : Nat → D → Option PyData
  | 0, d => scP d
  | n + 1, d => match scP d with
    | some p => some p
    | none => match view s d with
      | some (t, ds) => match pyL (pyD s n) ds with
        | some ps => pyN t ps
        | none => none
      | none => none
theorem pyL_length {f : D → Option PyData} : ∀ {ds : List D} {ps : List PyData}, pyL f ds = some ps → ps.length = ds.length
  | [], ps, h => by unfold pyL at h; cases h; rfl
  | d :: ds, ps, h => by
    unfold pyL at h
    split at h
    · rename_i p qs e1 e2
      cases h
      exact congrArg Nat.succ (pyL_length e2)
    · cases h
section
variable {X : Cx} {pins : List (Addr × Obj)} {σ : L2.St} {H Hf : Hp} {st : Shared} {m : CM} {s : Sto}
theorem scP_ok {d : D} {p : PyData} {v : V} {u : Value} (h : scP d = some p) (r : Rep X.K m Hf d v) (rv : RelV v u) : RdS st.heap u p := by
  cases d with
  | non => unfold Rep at r; subst r; cases h; cases rv; exact .none
  | bl b => unfold Rep at r; subst r; cases h; cases rv; exact .bool b
  | int i => unfold Rep at r; subst r; cases h; obtain ⟨t, rfl⟩ := rv; exact .int i t
  | str x => unfold Rep at r; subst r; cases h; obtain ⟨t, rfl⟩ := rv; exact .str x t
  | _ => cases h
theorem pyL_ok {f : D → Option PyData} (ih : ∀ d p v u, f d = some p → Rep X.K m Hf d v → RelV v u → RdS st.heap u p) : ∀ {ds : List D} {ps : List PyData} {vs : List V} {us : List Value}, pyL f ds = some ps → RepL X.K m Hf ds vs → Vals vs us → RdSs st.heap us ps
  | [], ps, vs, us, h, r, rv => by
    unfold pyL at h
    cases h
    rw [r.nilI] at rv
    cases rv
    exact .nil
  | d :: ds, ps, vs, us, h, r, rv => by
    unfold pyL at h
    obtain ⟨v, q, rfl, r1, r2⟩ := r.consI
    cases rv with
    | cons rv1 rv2 =>
      split at h
      · rename_i p qs e1 e2
        cases h
        exact .cons (ih d p v _ e1 r1 rv1) (pyL_ok ih e2 r2 rv2)
      · cases h
theorem keyP_ok {k : Key} {u : Value} {h : Heap} (e : keyIs k u = true) : RdS h u (keyP k) := by
  rcases keyIs_shape e with ⟨i, t, rfl, rfl⟩ | ⟨x, t, rfl, rfl⟩
  · exact .int i t
  · exact .str x t
theorem keysV_ok {h : Heap} : ∀ {k : List Key} {us : List Value}, Vals (k.map kV) us → RdSs h us (k.map keyP)
  | [], _, r => by cases r; exact .nil
  | k :: ks, _, r => by
    cases r with
    | cons r1 r2 =>
      refine .cons ?_ (keysV_ok r2)
      cases k with
      | inl i => obtain ⟨t, rfl⟩ := r1; exact .int i t
      | inr x => obtain ⟨t, rfl⟩ := r1; exact .str x t
theorem pairsK {h : Heap} : ∀ {es : List DictEntry} {ks : List Key} {vs : List V} {kvs : List (Key × Value)}, ks.length = vs.length → KV (ks.zip vs) kvs → Pairs (mixKind X.prog X.w) es kvs → RdSs h (es.map (·.key)) (ks.map keyP) ∧ Vals vs (es.map (·.val))
  | _, [], [], _, _, r, p => by cases r; cases p; exact ⟨.nil, .nil⟩
  | _, [], _ :: _, _, e, _, _ => by simp at e
  | _, _ :: _, [], _, e, _, _ => by simp at e
  | _, k :: ks, v :: vs, _, e, r, p => by
    cases r with
    | cons r1 r2 =>
      cases p with
      | cons p1 p2 p3 =>
        obtain ⟨q1, q2⟩ := pairsK (by simpa using e) r2 p3
        refine ⟨.cons (keyP_ok ?_) q1, .cons ?_ q2⟩
        · have e1 := r1.1
          dsimp only at e1
          rw [e1]
          exact p1
        · show RelV v _
          rw [show (fun x : DictEntry => x.val) _ = _ from p2]; exact r1.2
theorem pairsT (I : Inv X pins σ H st) : ∀ {xs : List (List Key × Addr × Value)} {ks : List (List Key)} {vs : List V}, ks.length = vs.length → KT H (ks.zip vs) xs → RdSs st.heap ((xs.map (entryOfKey (tupleKind (mixKind X.prog X.w)))).map (·.key)) (ks.map fun k => .tuple (k.map keyP)) ∧ Vals vs ((xs.map (entryOfKey (tupleKind (mixKind X.prog X.w)))).map (·.val))
  | _, [], [], _, r => by cases r; exact ⟨.nil, .nil⟩
  | _, [], _ :: _, e, _ => by simp at e
  | _, _ :: _, [], e, _ => by simp at e
  | _, k :: ks, v :: vs, e, r => by
    cases r with
    | cons r1 r2 =>
      rename_i x xs'
      obtain ⟨q1, q2⟩ := pairsT I (by simpa using e) r2
      obtain ⟨z1, z2, z3⟩ := r1
      obtain ⟨its, rv, ⟨o, ho, hc, n, hd⟩, _⟩ := I.tuple (SqT.of z2)
      have z1' : k = x.1 := z1
      refine ⟨.cons (.tuple ho hc hd ?_) q1, .cons z3 q2⟩
      have rv' : Vals (k.map kV) its := rv
      simpa using keysV_ok rv'
theorem pyD_ok (I : Inv X pins σ H st) (R : Rel X.K m Hf s H) : ∀ (n : Nat) (d : D) (p : PyData) (v : V) (u : Value), pyD s n d = some p → Rep X.K m Hf d v → RelV v u → RdS st.heap u p
  | 0, d, p, v, u, h, r, rv => scP_ok h r rv
  | n + 1, d, p, v, u, h, r, rv => by
    unfold pyD at h
    cases e : scP d with
    | some p' => rw [e] at h; cases h; exact scP_ok e r rv
    | none =>
      rw [e] at h
      dsimp only at h
      cases e2 : view s d with
      | none => rw [e2] at h; cases h
      | some q =>
        obtain ⟨t, ds⟩ := q
        rw [e2] at h
        dsimp only at h
        cases e3 : pyL (pyD s n) ds with
        | none => rw [e3] at h; cases h
        | some ps =>
          rw [e3] at h
          obtain ⟨a, vs, rfl, h2, h3⟩ := view_ok R r e2
          cases rv
          have hlen := pyL_length e3
          have hvl := h3.length
          cases t with
          | lst =>
            cases h
            obtain ⟨its, rv, ⟨o, k, ho, hc, _, hd⟩, _⟩ := I.list (SqL.of h2)
            exact .list ho hc hd (pyL_ok (pyD_ok I R n) e3 h3 (by simpa using rv))
          | sq =>
            cases h
            obtain ⟨its, rv, ⟨o, k, ho, hc, _, hd⟩, _⟩ := I.list h2
            exact .list ho hc hd (pyL_ok (pyD_ok I R n) e3 h3 (by simpa using rv))
          | tup =>
            cases h
            obtain ⟨its, rv, ⟨o, ho, hc, k, hd⟩, _⟩ := I.tuple h2
            exact .tuple ho hc hd (pyL_ok (pyD_ok I R n) e3 h3 (by simpa using rv))
          | dK ks =>
            cases h
            obtain ⟨hl, hrd⟩ := h2
            obtain ⟨_, hsys, kvs, hkv, o, es, ep, ho, hx, hd, _, hp, _⟩ := dk_rd I.hok hrd
            obtain ⟨q1, q2⟩ := pairsK (X := X) (h := st.heap) hl hkv hp
            have el : ks.length = ps.length := by omega
            refine .dict ho hx.1 hd hsys ?_ ?_
            · rw [List.map_fst_zip (by simp; omega)]; exact q1
            · rw [List.map_snd_zip (by simp; omega)]; exact pyL_ok (pyD_ok I R n) e3 h3 q2
          | dT ks =>
            cases h
            obtain ⟨hl, hrd⟩ := h2
            obtain ⟨_, hsys, xs, hkv, o, es, ep, ho, hx, hd, he, _, _⟩ := dt_rd I.hok hrd
            obtain ⟨q1, q2⟩ := pairsT I hl hkv
            have el : ks.length = ps.length := by omega
            refine .dict ho hx.1 hd hsys ?_ ?_
            · rw [List.map_fst_zip (by simp; omega), he]; exact q1
            · rw [List.map_snd_zip (by simp; omega), he]; exact pyL_ok (pyD_ok I R n) e3 h3 q2
          | ins c fs => cases h
end

/-! ### repr, == -/
section
variable {X : Cx} {k : Nat}
def gRepr (ds : List D) (s : Sto) : R D := match ds with
  | [d] => match pyD s 8 d with
    | some p => if p.showable = true ∧ p.depth ≤ 20 ∧ p.shown.length ≤ 16000000 then .ok (.str p.shown) s else .stuck
    | none => .stuck
  | _ => .stuck
def rDat (K : PySem.W.Frag) (g : List D → Sto → R D) : List V → Hp → VK → Prop := fun vs H Q => ∃ (m : CM) (Hf : Hp) (s : Sto) (ds : List D) (E : XK), Rel K m Hf s H ∧ RepL K m Hf ds vs ∧ Post K m Hf (Rep K) Q E (g ds s)
theorem ol_dat {K : PySem.W.Frag} {g : List D → Sto → R D} : OL K (rDat K g) g := fun {m Hf s H xs vs Q E} R r h => ⟨m, Hf, s, xs, E, R, r, h⟩
theorem cr_repr (hr : RoomG k X.A) : CallR X (.builtin "repr") (rDat X.K gRepr) := by
  intro pins st σ H vs us Q I rv h
  obtain ⟨m, Hf, s, ds, E, R, r, hp⟩ := h
  unfold gRepr at hp
  match ds, hp with
  | [d], hp =>
    obtain ⟨v, q, rfl, r1, r2⟩ := r.consI
    rw [r2.nilI] at rv
    cases rv with
    | cons rv1 rv2 =>
      cases rv2
      dsimp only at hp
      cases e : pyD s 8 d with
      | none => rw [e] at hp; exact hp.elim
      | some p =>
        rw [e] at hp
        dsimp only at hp
        by_cases hc : p.showable = true ∧ p.depth ≤ 20 ∧ p.shown.length ≤ 16000000
        · rw [if_pos hc] at hp
          have hu := hr.r.un
          have hz := sizeLine_eq
          refine (pyD_ok I R 8 d p v _ e r1 rv1).repr hc.1 (by omega) hr.g (by omega) (fun _ _ e => e) fun h' u tk hk => ?_
          exact ⟨.str p.shown, H, I.un (Un.kept hk) (I.hok.kept hk), ⟨u, rfl⟩, hp.ok R (by unfold Rep; rfl)⟩
        · rw [if_neg hc] at hp; exact hp.elim
end
end Bw

namespace Bw
open PySem PySem.Spec PyProof.Rows L2

/-! ### rules that speak of data -/
def rD2 (K : PySem.W.Frag) (g : D → D → Sto → R D) : R2 := fun v u H Q => ∃ (m : CM) (Hf : Hp) (s : Sto) (x y : D) (E : XK), Rel K m Hf s H ∧ Rep K m Hf x v ∧ Rep K m Hf y u ∧ Post K m Hf (Rep K) Q E (g x y s)
def rD1 (K : PySem.W.Frag) (g : D → Sto → R D) : V → Hp → VK → Prop := fun v H Q => ∃ (m : CM) (Hf : Hp) (s : Sto) (x : D) (E : XK), Rel K m Hf s H ∧ Rep K m Hf x v ∧ Post K m Hf (Rep K) Q E (g x s)
def rDM (K : PySem.W.Frag) (g : D → List D → Sto → R D) : V → List V → Hp → VK → Prop := fun v us H Q => ∃ (m : CM) (Hf : Hp) (s : Sto) (x : D) (ys : List D) (E : XK), Rel K m Hf s H ∧ Rep K m Hf x v ∧ RepL K m Hf ys us ∧ Post K m Hf (Rep K) Q E (g x ys s)
def rDS (K : PySem.W.Frag) (g : D → Option Int → Option Int → Sto → R D) : V → Option Int → Option Int → Hp → VK → Prop := fun v lo hi H Q => ∃ (m : CM) (Hf : Hp) (s : Sto) (x : D) (E : XK), Rel K m Hf s H ∧ Rep K m Hf x v ∧ Post K m Hf (Rep K) Q E (g x lo hi s)
def rD3 (K : PySem.W.Frag) (g : D → D → D → Sto → R Unit) : TSet := fun v u w H Q => ∃ (m : CM) (Hf : Hp) (s : Sto) (x y z : D) (E : XK), Rel K m Hf s H ∧ Rep K m Hf x v ∧ Rep K m Hf y u ∧ Rep K m Hf z w ∧ Post K m Hf (fun _ _ _ _ => True) (fun (_ : Unit) H' => Q H') E (g x y z s)
theorem o2d {K : PySem.W.Frag} {g : D → D → Sto → R D} : O2 K (rD2 K g) g := fun {m Hf s H x y v u Q E} R r1 r2 h => ⟨m, Hf, s, x, y, E, R, r1, r2, h⟩
theorem o1d {K : PySem.W.Frag} {g : D → Sto → R D} : O1 K (rD1 K g) g := fun {m Hf s H x v Q E} R r1 h => ⟨m, Hf, s, x, E, R, r1, h⟩
theorem omd {K : PySem.W.Frag} {g : D → List D → Sto → R D} : OM K (rDM K g) g := fun {m Hf s H x v xs vs Q E} R r1 r2 h => ⟨m, Hf, s, x, xs, E, R, r1, r2, h⟩
theorem osd {K : PySem.W.Frag} {g : D → Option Int → Option Int → Sto → R D} : OS K (rDS K g) g := fun {m Hf s H x v lo hi Q E} R r1 h => ⟨m, Hf, s, x, E, R, r1, h⟩
theorem o3d {K : PySem.W.Frag} {g : D → D → D → Sto → R Unit} : O3 K (rD3 K g) g := fun {m Hf s H x y z v u w Q E} R r1 r2 r3 h => ⟨m, Hf, s, x, y, z, E, R, r1, r2, r3, h⟩

/-! ### what comes back: a frozen thing or a cell -/
def bk (c : Bool) (ds : List D) (s : Sto) : R D := if c then .ok (.cell s.out.length s.loc.length) (s.alloc (.live .lst ds)) else .ok (.node .lst ds) s
@[simp] theorem bk_f (ds : List D) (s : Sto) : bk false ds s = .ok (.node .lst ds) s := rfl
@[simp] theorem bk_t (ds : List D) (s : Sto) : bk true ds s = .ok (.cell s.out.length s.loc.length) (s.alloc (.live .lst ds)) := rfl
theorem Post.newB {K : PySem.W.Frag} {m : CM} {Hf H : Hp} {s : Sto} {E : XK} {Q : VK} {c : Bool} {ds : List D} {vs : List V} (R : Rel K m Hf s H) (h : RepL K m Hf ds vs) (q : Post K m Hf (Rep K) Q E (bk c ds s)) : ∀ p, H p = none → Q (.ref p) (upd H p (.lst vs)) := by
  cases c with
  | false => exact Post.newL R h q
  | true => exact Post.newCL R h q

/-! ### ints -/
def gI (c : Int → Int → Bool) (f : Int → Int → D) (x y : D) (s : Sto) : R D := match x, y with
  | .int i, .int j => if c i j then .ok (f i j) s else .stuck
  | _, _ => .stuck
section
variable {X : Cx}
theorem op_gI {f : Value → Value → Sem Value} {C : Int → Int → Prop} {g : Int → Int → V} (ho : OpR X f (rI C g)) (c : Int → Int → Bool) (d : Int → Int → D) (hc : ∀ i j, c i j = true → C i j) (hd : ∀ i j m Hf, Rep X.K m Hf (d i j) (g i j)) : OpR X f (rD2 X.K (gI c d)) := by
  intro pins st σ H v0 u0 v u Q I rv ru h
  obtain ⟨m, Hf, s, x, y, E, R, r1, r2, hp⟩ := h
  unfold gI at hp
  split at hp
  · rename_i i j
    unfold Rep at r1 r2
    subst r1 r2
    by_cases hb : c i j = true
    · rw [if_pos hb] at hp
      exact ho pins st σ H _ _ v u Q I rv ru ⟨i, j, rfl, rfl, hc i j hb, hp.ok R (hd i j m Hf)⟩
    · rw [if_neg hb] at hp; exact hp.elim
  · exact hp.elim
theorem rI0_I {f : Value → Value → Sem Value} {g : Int → Int → V} (ho : OpR X f (rI0 g)) : OpR X f (rI (fun _ _ => True) g) := fun pins st σ H x y v u Q I r1 r2 ⟨i, j, h1, h2, _, h3⟩ => ho pins st σ H x y v u Q I r1 r2 ⟨i, j, h1, h2, h3⟩
theorem rep_int {K : PySem.W.Frag} {m : CM} {Hf : Hp} {i : Int} : Rep K m Hf (.int i) (.int i) := by unfold Rep; rfl
theorem rep_bl {K : PySem.W.Frag} {m : CM} {Hf : Hp} {b : Bool} : Rep K m Hf (.bl b) (.bl b) := by unfold Rep; rfl
theorem rep_str {K : PySem.W.Frag} {m : CM} {Hf : Hp} {x : Str} : Rep K m Hf (.str x) (.str x) := by unfold Rep; rfl
theorem rep_non {K : PySem.W.Frag} {m : CM} {Hf : Hp} : Rep K m Hf .non .non := by unfold Rep; rfl
abbrev yes : Int → Int → Bool := fun _ _ => true
def gSub := gI yes fun i j => .int (i - j)
def cMul (i j : Int) : Bool := decide (i.natAbs.log2 + j.natAbs.log2 < 1000000)
def cDiv (_ j : Int) : Bool := decide (0 < j ∧ j.natAbs.log2 < 9000)
def cMod (_ j : Int) : Bool := decide (0 < j)
def cPow (i j : Int) : Bool := decide (0 ≤ j ∧ j ≤ 1000000 ∧ i.natAbs < 2 ^ 64)
def gDiv := gI cDiv fun i j => .int (i / j)
def gMod := gI cMod fun i j => .int (i % j)
def gPow := gI cPow fun i j => .int (i ^ j.toNat)
theorem op_Sub : OpR X (binaryOp .Sub) (rD2 X.K gSub) := op_gI (rI0_I op_sub) _ _ (fun _ _ _ => trivial) fun _ _ _ _ => rep_int
theorem op_FloorDiv : OpR X (binaryOp .FloorDiv) (rD2 X.K gDiv) := op_gI op_fdivW _ _ (fun i j h => of_decide_eq_true (p := 0 < j ∧ j.natAbs.log2 < 9000) h) fun _ _ _ _ => rep_int
theorem op_Mod : OpR X (binaryOp .Mod) (rD2 X.K gMod) := op_gI op_mod _ _ (fun i j h => of_decide_eq_true h) fun _ _ _ _ => rep_int
theorem op_Pow : OpR X (binaryOp .Pow) (rD2 X.K gPow) := op_gI op_pow _ _ (fun i j h => of_decide_eq_true (p := 0 ≤ j ∧ j ≤ 1000000 ∧ i.natAbs < 2 ^ 64) h) fun _ _ _ _ => rep_int

/-! ### + -/
def gAdd (c : Bool) (x y : D) (s : Sto) : R D := match x, y with
  | .int i, .int j => .ok (.int (i + j)) s
  | .str a, .str b => if a.length + b.length ≤ 1000000 then .ok (.str (a ++ b)) s else .stuck
  | x, y => match view s x, view s y with
    | some (.lst, ds), some (.lst, es) => if ds.length + es.length ≤ 1000000 then bk c (ds ++ es) s else .stuck
    | some (.tup, ds), some (.tup, es) => if ds.length + es.length ≤ 1000000 then .ok (.node .tup (ds ++ es)) s else .stuck
    | _, _ => .stuck
theorem view_tup {s : Sto} {d : D} {ds : List D} {K : PySem.W.Frag} {m : CM} {Hf H : Hp} (R : Rel K m Hf s H) (h : view s d = some (.tup, ds)) : d = .node .tup ds := by
  cases d with
  | node t es => unfold view at h; cases h; rfl
  | cell l k =>
    unfold view at h
    dsimp only at h
    cases e : s.get l k with
    | none => rw [e] at h; cases h
    | some c =>
      rw [e] at h
      obtain ⟨a, _, _, hc⟩ := R.cell l k c e
      cases c with
      | live t es => cases h; obtain ⟨_, _, _, vs, q, _⟩ := hc; exact q.elim
      | lock t es => cases h; obtain ⟨_, _, vs, q, _⟩ := hc; exact q.elim
      | dead => cases h
  | _ => unfold view at h; cases h
theorem op_Add (c : Bool) : OpR X (binaryOp .Add) (rD2 X.K (gAdd c)) := by
  intro pins st σ H v0 u0 v u Q I rv ru h
  obtain ⟨m, Hf, s, x, y, E, R, r1, r2, hp⟩ := h
  unfold gAdd at hp
  split at hp
  · unfold Rep at r1 r2
    subst r1 r2
    exact op_add pins st σ H _ _ v u Q I rv ru ⟨_, _, rfl, rfl, hp.ok R rep_int⟩
  · unfold Rep at r1 r2
    subst r1 r2
    split at hp
    · rename_i hl
      exact op_add_str pins st σ H _ _ v u Q I rv ru ⟨_, _, rfl, rfl, line_big hl, hp.ok R rep_str⟩
    · exact hp.elim
  · cases e1 : view s x with
    | none => rw [e1] at hp; exact hp.elim
    | some p1 =>
      cases e2 : view s y with
      | none => rw [e1, e2] at hp; obtain ⟨t, ds⟩ := p1; cases t <;> exact hp.elim
      | some p2 =>
        obtain ⟨t1, ds⟩ := p1
        obtain ⟨t2, es⟩ := p2
        rw [e1, e2] at hp
        obtain ⟨a, vs, rfl, h2, h3⟩ := view_ok R r1 e1
        obtain ⟨b, us, rfl, h4, h5⟩ := view_ok R r2 e2
        cases t1 with
        | lst =>
          cases t2 with
          | lst =>
            dsimp only at hp
            split at hp
            · rename_i hl
              exact op_cat pins st σ H _ _ v u Q I rv ru ⟨a, b, vs, us, rfl, rfl, h2, h4, line_big (by rw [h3.length, h5.length]; exact hl), Post.newB R (h3.append h5) hp⟩
            · exact hp.elim
          | _ => exact hp.elim
        | tup =>
          cases t2 with
          | tup =>
            dsimp only at hp
            split at hp
            · rename_i hl
              have ex := view_tup R e1
              have ey := view_tup R e2
              subst ex ey
              refine op_catA pins st σ H _ _ v u Q I rv ru ⟨a, b, vs, us, rfl, rfl, h2, h4, line_big (by rw [h3.length, h5.length]; exact hl), fun hn => ?_, fun _ hn => ?_, fun _ _ => Post.newT R (h3.append h5) hp⟩
              · subst hn
                have e0 : ds = [] := List.eq_nil_of_length_eq_zero (by rw [← h3.length]; rfl)
                subst e0
                exact hp.ok R r2
              · subst hn
                have e0 : es = [] := List.eq_nil_of_length_eq_zero (by rw [← h5.length]; rfl)
                subst e0
                rw [List.append_nil] at hp
                exact hp.ok R r1
            · exact hp.elim
          | _ => exact hp.elim
        | _ => exact hp.elim

/-! ### * -/
def gMul (c : Bool) (x y : D) (s : Sto) : R D := match x, y with
  | .int i, .int j => if cMul i j then .ok (.int (i * j)) s else .stuck
  | x, .int k => match view s x with
    | some (.lst, ds) => if -1000000 ≤ k ∧ k ≤ 1000000 ∧ ds.length * k.toNat ≤ 1000000 then bk c (List.replicate k.toNat ds).flatten s else .stuck
    | _ => .stuck
  | _, _ => .stuck
theorem RepL.rep {K : PySem.W.Frag} {m : CM} {Hf : Hp} {ds : List D} {vs : List V} (h : RepL K m Hf ds vs) : ∀ n, RepL K m Hf (List.replicate n ds).flatten (List.replicate n vs).flatten
  | 0 => by simpa using RepL.nil
  | n + 1 => by simpa [List.replicate_succ] using h.append (RepL.rep h n)
theorem op_Mult (c : Bool) : OpR X (binaryOp .Mult) (rD2 X.K (gMul c)) := by
  intro pins st σ H v0 u0 v u Q I rv ru h
  obtain ⟨m, Hf, s, x, y, E, R, r1, r2, hp⟩ := h
  unfold gMul at hp
  split at hp
  · unfold Rep at r1 r2
    subst r1 r2
    split at hp
    · rename_i i j hc
      exact op_mulW pins st σ H _ _ v u Q I rv ru ⟨_, _, rfl, rfl, of_decide_eq_true (p := i.natAbs.log2 + j.natAbs.log2 < 1000000) hc, hp.ok R rep_int⟩
    · exact hp.elim
  · rename_i k hx
    unfold Rep at r2
    subst r2
    cases e1 : view s x with
    | none => rw [e1] at hp; exact hp.elim
    | some p1 =>
      obtain ⟨t1, ds⟩ := p1
      rw [e1] at hp
      obtain ⟨a, vs, rfl, h2, h3⟩ := view_ok R r1 e1
      cases t1 with
      | lst =>
        dsimp only at hp
        split at hp
        · rename_i hl
          exact op_rep pins st σ H _ _ v u Q I rv ru ⟨a, k, vs, rfl, rfl, h2, by omega, by omega, line_big (by rw [h3.length]; exact hl.2.2), Post.newB R (h3.rep _) hp⟩
        · exact hp.elim
      | _ => exact hp.elim
  · exact hp.elim

/-! ### order -/
def gLt (x y : D) (s : Sto) : R D := match x, y with
  | .int i, .int j => .ok (.bl (decide (i < j))) s
  | .str a, .str b => .ok (.bl (decide (a.cps.toList < b.cps.toList))) s
  | _, _ => .stuck
def gLe (x y : D) (s : Sto) : R D := match x, y with
  | .int i, .int j => .ok (.bl (decide (i ≤ j))) s
  | .str a, .str b => .ok (.bl (!decide (b.cps.toList < a.cps.toList))) s
  | _, _ => .stuck
def gGt (x y : D) (s : Sto) : R D := match x, y with
  | .int i, .int j => .ok (.bl (decide (j < i))) s
  | .str a, .str b => .ok (.bl (decide (b.cps.toList < a.cps.toList))) s
  | _, _ => .stuck
def gGe (x y : D) (s : Sto) : R D := match x, y with
  | .int i, .int j => .ok (.bl (decide (j ≤ i))) s
  | .str a, .str b => .ok (.bl (!decide (a.cps.toList < b.cps.toList))) s
  | _, _ => .stuck
theorem op_Lt : OpR X (compareOp .Lt) (rD2 X.K gLt) := by
  intro pins st σ H v0 u0 v u Q I rv ru h
  obtain ⟨m, Hf, s, x, y, E, R, r1, r2, hp⟩ := h
  unfold gLt at hp
  split at hp
  · unfold Rep at r1 r2; subst r1 r2
    exact op_lt pins st σ H _ _ v u Q I rv ru ⟨_, _, rfl, rfl, hp.ok R rep_bl⟩
  · unfold Rep at r1 r2; subst r1 r2
    exact op_lt_str pins st σ H _ _ v u Q I rv ru ⟨_, _, rfl, rfl, hp.ok R rep_bl⟩
  · exact hp.elim
theorem op_LtE : OpR X (compareOp .LtE) (rD2 X.K gLe) := by
  intro pins st σ H v0 u0 v u Q I rv ru h
  obtain ⟨m, Hf, s, x, y, E, R, r1, r2, hp⟩ := h
  unfold gLe at hp
  split at hp
  · unfold Rep at r1 r2; subst r1 r2
    exact op_le pins st σ H _ _ v u Q I rv ru ⟨_, _, rfl, rfl, hp.ok R rep_bl⟩
  · unfold Rep at r1 r2; subst r1 r2
    exact op_le_str pins st σ H _ _ v u Q I rv ru ⟨_, _, rfl, rfl, hp.ok R rep_bl⟩
  · exact hp.elim
theorem op_Gt : OpR X (compareOp .Gt) (rD2 X.K gGt) := by
  intro pins st σ H v0 u0 v u Q I rv ru h
  obtain ⟨m, Hf, s, x, y, E, R, r1, r2, hp⟩ := h
  unfold gGt at hp
  split at hp
  · unfold Rep at r1 r2; subst r1 r2
    exact op_gt pins st σ H _ _ v u Q I rv ru ⟨_, _, rfl, rfl, hp.ok R rep_bl⟩
  · unfold Rep at r1 r2; subst r1 r2
    exact op_gt_str pins st σ H _ _ v u Q I rv ru ⟨_, _, rfl, rfl, hp.ok R rep_bl⟩
  · exact hp.elim
theorem op_GtE : OpR X (compareOp .GtE) (rD2 X.K gGe) := by
  intro pins st σ H v0 u0 v u Q I rv ru h
  obtain ⟨m, Hf, s, x, y, E, R, r1, r2, hp⟩ := h
  unfold gGe at hp
  split at hp
  · unfold Rep at r1 r2; subst r1 r2
    exact op_ge pins st σ H _ _ v u Q I rv ru ⟨_, _, rfl, rfl, hp.ok R rep_bl⟩
  · unfold Rep at r1 r2; subst r1 r2
    exact op_ge_str pins st σ H _ _ v u Q I rv ru ⟨_, _, rfl, rfl, hp.ok R rep_bl⟩
  · exact hp.elim

/-! ### ==, is -/
/-- scalars -/
def eqS : D → D → Option Bool
  | .non, .non => some true
  | .non, .int _ => some false
  | .int _, .non => some false
  | .non, .bl _ => some false
  | .bl _, .non => some false
  | .non, .str _ => some false
  | .int i, .int j => some (decide (i = j))
  | .bl i, .bl j => some (decide (i = j))
  | .str i, .str j => some (decide (i = j))
  | .int _, .str _ => some false
  | .str _, .int _ => some false
  | .bl _, .str _ => some false
  | .str _, .bl _ => some false
  | _, _ => none
def eqD (s : Sto) (x y : D) : Option Bool := match eqS x y with
  | some b => some b
  | none => match pyD s 8 x, pyD s 8 y with
    | some d, some e => if SeqAt.shaped d = true ∧ SeqAt.shaped e = true then some (PyData.eqv d e) else none
    | _, _ => none
def gEq (x y : D) (s : Sto) : R D := match eqD s x y with
  | some b => .ok (.bl b) s
  | none => .stuck
def gNe (x y : D) (s : Sto) : R D := match eqD s x y with
  | some b => .ok (.bl (!b)) s
  | none => .stuck
theorem eqS_ok {K : PySem.W.Frag} {m : CM} {Hf : Hp} {x y : D} {v u : V} {b : Bool} (h : eqS x y = some b) (r1 : Rep K m Hf x v) (r2 : Rep K m Hf y u) : scal v u = true ∧ b = decide (v = u) := by
  unfold eqS at h
  split at h <;> first | (cases h) | skip
  all_goals (unfold Rep at r1 r2; subst r1 r2; refine ⟨rfl, ?_⟩; simp)
theorem op_Eq {k : Nat} (hr : RoomG k X.A) : OpR X (compareOp .Eq) (rD2 X.K gEq) := by
  intro pins st σ H v0 u0 v u Q I rv ru h
  obtain ⟨m, Hf, s, x, y, E, R, r1, r2, hp⟩ := h
  unfold gEq at hp
  cases e : eqD s x y with
  | none => rw [e] at hp; exact hp.elim
  | some b =>
    rw [e] at hp
    unfold eqD at e
    cases e1 : eqS x y with
    | some b' =>
      rw [e1] at e
      cases e
      obtain ⟨h1, h2⟩ := eqS_ok e1 r1 r2
      exact op_eq pins st σ H _ _ v u Q I rv ru ⟨h1, by rw [← h2]; exact hp.ok R rep_bl⟩
    | none =>
      rw [e1] at e
      dsimp only at e
      cases e2 : pyD s 8 x with
      | none => rw [e2] at e; cases e
      | some d1 =>
        cases e3 : pyD s 8 y with
        | none => rw [e2, e3] at e; cases e
        | some d2 =>
          rw [e2, e3] at e
          dsimp only at e
          by_cases hc : SeqAt.shaped d1 = true ∧ SeqAt.shaped d2 = true
          · rw [if_pos hc] at e
            cases e
            obtain ⟨as, q1⟩ := (pyD_ok I R 8 x d1 v0 v e2 r1 rv).reads
            obtain ⟨bs, q2⟩ := (pyD_ok I R 8 y d2 u0 u e3 r2 ru).reads
            have hu := hr.r.un
            have h4 := SeqAt.depth_of_shaped hc.1
            exact SeqAt.eqOverData _ _ X.A X.xe st v u d1 d2 as bs _ q1 q2 (SeqAt.canLay_of_shaped hc.1) (SeqAt.canLay_of_shaped hc.2) (by omega) ⟨.bl _, H, I, rfl, hp.ok R rep_bl⟩
          · rw [if_neg hc] at e; cases e
theorem op_NotEq {k : Nat} (hr : RoomG k X.A) : OpR X (compareOp .NotEq) (rD2 X.K gNe) := by
  intro pins st σ H v0 u0 v u Q I rv ru h
  obtain ⟨m, Hf, s, x, y, E, R, r1, r2, hp⟩ := h
  unfold gNe at hp
  cases e : eqD s x y with
  | none => rw [e] at hp; exact hp.elim
  | some b =>
    rw [e] at hp
    unfold eqD at e
    cases e1 : eqS x y with
    | some b' =>
      rw [e1] at e
      cases e
      obtain ⟨h1, h2⟩ := eqS_ok e1 r1 r2
      exact op_ne pins st σ H _ _ v u Q I rv ru ⟨h1, by rw [← h2]; exact hp.ok R rep_bl⟩
    | none =>
      rw [e1] at e
      dsimp only at e
      cases e2 : pyD s 8 x with
      | none => rw [e2] at e; cases e
      | some d1 =>
        cases e3 : pyD s 8 y with
        | none => rw [e2, e3] at e; cases e
        | some d2 =>
          rw [e2, e3] at e
          dsimp only at e
          by_cases hc : SeqAt.shaped d1 = true ∧ SeqAt.shaped d2 = true
          · rw [if_pos hc] at e
            cases e
            obtain ⟨as, q1⟩ := (pyD_ok I R 8 x d1 v0 v e2 r1 rv).reads
            obtain ⟨bs, q2⟩ := (pyD_ok I R 8 y d2 u0 u e3 r2 ru).reads
            have hu := hr.r.un
            have h4 := SeqAt.depth_of_shaped hc.1
            exact SeqAt.neOverData _ _ X.A X.xe st v u d1 d2 as bs _ q1 q2 (SeqAt.canLay_of_shaped hc.1) (SeqAt.canLay_of_shaped hc.2) (by omega) ⟨.bl _, H, I, rfl, hp.ok R rep_bl⟩
          · rw [if_neg hc] at e; cases e
def isN : D → Bool
  | .non => true
  | _ => false
def gIsN (x y : D) (s : Sto) : R D := match y with
  | .non => .ok (.bl (isN x)) s
  | _ => .stuck
def gIsNotN (x y : D) (s : Sto) : R D := match y with
  | .non => .ok (.bl (!isN x)) s
  | _ => .stuck
theorem isN_ok {K : PySem.W.Frag} {m : CM} {Hf : Hp} {x : D} {v : V} (r : Rep K m Hf x v) : decide (v = .non) = isN x := by
  cases x with
  | node t ds => unfold Rep at r; obtain ⟨a, vs, rfl, _⟩ := r; rfl
  | cell l k => unfold Rep at r; obtain ⟨a, _, rfl⟩ := r; rfl
  | _ => unfold Rep at r; subst r; rfl
theorem op_Is : OpR X (compareOp .Is) (rD2 X.K gIsN) := by
  intro pins st σ H v0 u0 v u Q I rv ru h
  obtain ⟨m, Hf, s, x, y, E, R, r1, r2, hp⟩ := h
  cases y with
  | non =>
    unfold Rep at r2
    exact op_isN pins st σ H _ _ v u Q I rv ru ⟨r2, by rw [isN_ok r1]; exact hp.ok R rep_bl⟩
  | _ => exact hp.elim
theorem op_IsNot : OpR X (compareOp .IsNot) (rD2 X.K gIsNotN) := by
  intro pins st σ H v0 u0 v u Q I rv ru h
  obtain ⟨m, Hf, s, x, y, E, R, r1, r2, hp⟩ := h
  cases y with
  | non =>
    unfold Rep at r2
    exact op_notN pins st σ H _ _ v u Q I rv ru ⟨r2, by rw [isN_ok r1]; exact hp.ok R rep_bl⟩
  | _ => exact hp.elim
end
end Bw

namespace Bw
open PySem PySem.Spec PyProof.Rows L2

/-! ### in -/
def seqOf (s : Sto) (d : D) : Option (List D) := match view s d with
  | some (.lst, ds) => some ds
  | some (.sq, ds) => some ds
  | some (.tup, ds) => some ds
  | _ => none
theorem seqOf_ok {K : PySem.W.Frag} {m : CM} {Hf H : Hp} {s : Sto} {d : D} {v : V} {ds : List D} (R : Rel K m Hf s H) (r : Rep K m Hf d v) (h : seqOf s d = some ds) : ∃ a vs, v = .ref a ∧ (SqL K H a vs ∨ SqT K H a vs) ∧ RepL K m Hf ds vs := by
  unfold seqOf at h
  cases e : view s d with
  | none => rw [e] at h; cases h
  | some p =>
    obtain ⟨t, es⟩ := p
    obtain ⟨a, vs, rfl, h2, h3⟩ := view_ok R r e
    rw [e] at h
    cases t with
    | lst => cases h; exact ⟨a, vs, rfl, .inl (SqL.of h2), h3⟩
    | sq => cases h; exact ⟨a, vs, rfl, .inl h2, h3⟩
    | tup => cases h; exact ⟨a, vs, rfl, .inr h2, h3⟩
    | _ => cases h
def flatD : D → Bool
  | .non => true
  | .bl _ => true
  | .int _ => true
  | .str _ => true
  | _ => false
def eqF : D → D → Bool
  | .non, .non => true
  | .bl a, .bl b => a == b
  | .bl a, .int b => (if a then 1 else 0) == b
  | .int a, .bl b => a == (if b then 1 else 0)
  | .int a, .int b => a == b
  | .str a, .str b => a == b
  | _, _ => false
theorem flatD_ok {K : PySem.W.Frag} {m : CM} {Hf : Hp} {d : D} {v : V} (r : Rep K m Hf d v) (h : flatD d = true) : flatV v = true := by
  cases d <;> first | (unfold Rep at r; subst r; rfl) | cases h
theorem eqF_ok {K : PySem.W.Frag} {m : CM} {Hf : Hp} {d e : D} {v u : V} (r : Rep K m Hf d v) (r' : Rep K m Hf e u) (h : flatD d = true) (h' : flatD e = true) : eqV v u = eqF d e := by
  cases d <;> cases e <;> first | (unfold Rep at r r'; subst r r'; rfl) | exact absurd h Bool.false_ne_true | exact absurd h' Bool.false_ne_true
theorem flatL_ok {K : PySem.W.Frag} {m : CM} {Hf : Hp} {x : D} {v : V} (rx : Rep K m Hf x v) (hx : flatD x = true) : ∀ {ds : List D} {vs : List V}, RepL K m Hf ds vs → ds.all flatD = true → vs.all flatV = true ∧ inV v vs = ds.any fun y => eqF y x
  | [], vs, r, _ => by rw [r.nilI]; exact ⟨rfl, rfl⟩
  | d :: ds, vs, r, h => by
    obtain ⟨u, us, rfl, r1, r2⟩ := r.consI
    rw [List.all_cons, Bool.and_eq_true] at h
    obtain ⟨h1, h2⟩ := flatL_ok rx hx r2 h.2
    refine ⟨by rw [List.all_cons, flatD_ok r1 h.1, h1]; rfl, ?_⟩
    unfold inV at h2 ⊢
    rw [List.any_cons, List.any_cons, h2, eqF_ok r1 rx h.1 hx]
/-- is x in it -/
def inD (s : Sto) (x y : D) : Option Bool := match x, y with
  | .str ⟨⟨[c]⟩⟩, .str z => some (decide (c ∈ z.cps.toList))
  | x, y => match seqOf s y with
    | some ds => if flatD x = true ∧ ds.all flatD = true then some (ds.any fun z => eqF z x) else match view s y, pyD s 8 x, pyD s 8 y with
      | some (.lst, _), some d, some (.list ps) => if SeqAt.shaped d = true ∧ SeqAt.shaped (.list ps) = true then some (ps.any fun z => PyData.eqv z d) else none
      | _, _, _ => none
    | none => none
def gIn (x y : D) (s : Sto) : R D := match inD s x y with
  | some b => .ok (.bl b) s
  | none => .stuck
def gNotIn (x y : D) (s : Sto) : R D := match inD s x y with
  | some b => .ok (.bl (!b)) s
  | none => .stuck
section
variable {X : Cx}
theorem inD_ok {k : Nat} (hr : RoomG k X.A) {pins : List (Addr × Obj)} {st : Shared} {σ : L2.St} {m : CM} {Hf H : Hp} {s : Sto} {x y : D} {v0 u0 : V} {v u : Value} {b : Bool} (I : Inv X pins σ H st) (R : Rel X.K m Hf s H) (rv : RelV v0 v) (ru : RelV u0 u) (r1 : Rep X.K m Hf x v0) (r2 : Rep X.K m Hf y u0) (h : inD s x y = some b) :
    (∀ Q : VK, Q (.bl b) H → wpAny (model X.prog X.w) X.A (compareOp .In v u) (EP X pins σ Q) X.xe st) ∧ (∀ Q : VK, Q (.bl (!b)) H → wpAny (model X.prog X.w) X.A (compareOp .NotIn v u) (EP X pins σ Q) X.xe st) := by
  unfold inD at h
  split at h
  · cases h
    unfold Rep at r1 r2
    subst r1 r2
    exact ⟨fun Q q => op_in_sign pins st σ H _ _ v u Q I rv ru ⟨_, _, rfl, rfl, q⟩, fun Q q => op_notIn_sign pins st σ H _ _ v u Q I rv ru ⟨_, _, rfl, rfl, q⟩⟩
  · cases e : seqOf s y with
    | none => rw [e] at h; cases h
    | some ds =>
      rw [e] at h
      dsimp only at h
      by_cases hc : flatD x = true ∧ ds.all flatD = true
      · rw [if_pos hc] at h
        cases h
        obtain ⟨a, vs, rfl, q1, q2⟩ := seqOf_ok R r2 e
        obtain ⟨h1, h2⟩ := flatL_ok r1 hc.1 q2 hc.2
        refine ⟨fun Q q => op_in_seq pins st σ H _ _ v u Q I rv ru ⟨a, vs, rfl, q1, flatD_ok r1 hc.1, h1, ?_⟩, fun Q q => op_notIn_seq pins st σ H _ _ v u Q I rv ru ⟨a, vs, rfl, q1, flatD_ok r1 hc.1, h1, ?_⟩⟩
        · rw [if_neg Bool.false_ne_true, h2]; exact q
        · rw [if_pos rfl, h2]; exact q
      · rw [if_neg hc] at h
        split at h
        · rename_i ps d ps' e1 e2 e3
          by_cases hs : SeqAt.shaped d = true ∧ SeqAt.shaped (.list ps') = true
          · rw [if_pos hs] at h
            cases h
            obtain ⟨as, q1⟩ := (pyD_ok I R 8 x d v0 v e2 r1 rv).reads
            obtain ⟨bs, q2⟩ := (pyD_ok I R 8 y _ u0 u e3 r2 ru).reads
            obtain ⟨a, vs, rfl, _, _⟩ := seqOf_ok R r2 e
            cases ru
            have hu := hr.r.un
            exact ⟨fun Q q => SeqAt.in_list_reads q2 q1 (SeqAt.canLay_of_shaped hs.2) (SeqAt.canLay_of_shaped hs.1) (room_in_shaped hs.1 (by omega)) ⟨.bl _, H, I, rfl, q⟩, fun Q q => SeqAt.notIn_list_reads q2 q1 (SeqAt.canLay_of_shaped hs.2) (SeqAt.canLay_of_shaped hs.1) (room_in_shaped hs.1 (by omega)) ⟨.bl _, H, I, rfl, q⟩⟩
          · rw [if_neg hs] at h; cases h
        · cases h
theorem op_In {k : Nat} (hr : RoomG k X.A) : OpR X (compareOp .In) (rD2 X.K gIn) := by
  intro pins st σ H v0 u0 v u Q I rv ru h
  obtain ⟨m, Hf, s, x, y, E, R, r1, r2, hp⟩ := h
  unfold gIn at hp
  cases e : inD s x y with
  | none => rw [e] at hp; exact hp.elim
  | some b =>
    rw [e] at hp
    exact (inD_ok hr I R rv ru r1 r2 e).1 Q (hp.ok R rep_bl)
theorem op_NotIn {k : Nat} (hr : RoomG k X.A) : OpR X (compareOp .NotIn) (rD2 X.K gNotIn) := by
  intro pins st σ H v0 u0 v u Q I rv ru h
  obtain ⟨m, Hf, s, x, y, E, R, r1, r2, hp⟩ := h
  unfold gNotIn at hp
  cases e : inD s x y with
  | none => rw [e] at hp; exact hp.elim
  | some b =>
    rw [e] at hp
    exact (inD_ok hr I R rv ru r1 r2 e).2 Q (hp.ok R rep_bl)

/-! ### items, slices -/
def gIx (x y : D) (s : Sto) : R D := match x, y with
  | .str z, .int i => if z.length ≤ 1000000 then match atI z.cps.toList i with
    | some c => .ok (.str ⟨#[c]⟩) s
    | none => .stuck else .stuck
  | x, .int i => match seqOf s x with
    | some ds => match atI ds i with
      | some d => .ok d s
      | none => .stuck
    | none => .stuck
  | _, _ => .stuck
theorem atI_rep {K : PySem.W.Frag} {m : CM} {Hf : Hp} {ds : List D} {vs : List V} {i : Int} {d : D} (r : RepL K m Hf ds vs) (h : atI ds i = some d) : ∃ v, atI vs i = some v ∧ Rep K m Hf d v := by
  unfold atI at h ⊢
  rw [r.length]
  cases e : ixN ds.length i with
  | none => rw [e] at h; cases h
  | some j =>
    rw [e] at h
    exact r.get (show ds[j]? = some d from h)
theorem ix_D : IxR X (rD2 X.K gIx) := by
  intro value slice pins st σ H v0 u0 v u Q I rv ru h hs
  obtain ⟨m, Hf, s, x, y, E, R, r1, r2, hp⟩ := h
  unfold gIx at hp
  split at hp
  · rename_i z i
    unfold Rep at r1 r2
    subst r1 r2
    split at hp
    · rename_i hl
      cases e : atI z.cps.toList i with
      | none => rw [e] at hp; exact hp.elim
      | some c =>
        rw [e] at hp
        exact ix_str value slice pins st σ H _ _ v u Q I rv ru ⟨z, i, c, rfl, rfl, line_big hl, e, hp.ok R rep_str⟩ hs
    · exact hp.elim
  · rename_i i hx
    unfold Rep at r2
    subst r2
    cases e : seqOf s x with
    | none => rw [e] at hp; exact hp.elim
    | some ds =>
      rw [e] at hp
      dsimp only at hp
      obtain ⟨a, vs, rfl, q1, q2⟩ := seqOf_ok R r1 e
      cases e2 : atI ds i with
      | none => rw [e2] at hp; exact hp.elim
      | some d =>
        rw [e2] at hp
        obtain ⟨v', q3, q4⟩ := atI_rep q2 e2
        rcases q1 with q1 | q1
        · exact ix_list value slice pins st σ H _ _ v u Q I rv ru ⟨a, vs, i, v', rfl, rfl, q1, q3, hp.ok R q4⟩ hs
        · exact ix_tup value slice pins st σ H _ _ v u Q I rv ru ⟨a, vs, i, v', rfl, rfl, q1, q3, hp.ok R q4⟩ hs
  · exact hp.elim
def cutD (xs : List D) (lo hi : Option Int) : List D := (xs.drop (HT.sIx xs.length 0 lo)).take (HT.sIx xs.length xs.length hi - HT.sIx xs.length 0 lo)
theorem RepL.cutV {K : PySem.W.Frag} {m : CM} {Hf : Hp} {ds : List D} {vs : List V} (r : RepL K m Hf ds vs) (lo hi : Option Int) : RepL K m Hf (cutD ds lo hi) (L2.cutV vs lo hi) := by
  unfold cutD L2.cutV
  rw [r.length]
  exact (r.drop _).take _
def gSl (c : Bool) (x : D) (lo hi : Option Int) (s : Sto) : R D := match x with
  | .str z => if z.length ≤ 1000000 then .ok (.str (cutS z lo hi)) s else .stuck
  | x => match view s x with
    | some (.lst, ds) => bk c (cutD ds lo hi) s
    | some (.sq, ds) => bk c (cutD ds lo hi) s
    | some (.tup, ds) => .ok (.node .tup (cutD ds lo hi)) s
    | _ => .stuck
theorem cutD_all {ds : List D} {lo hi : Option Int} (h : HT.sIx ds.length 0 lo = 0 ∧ HT.sIx ds.length ds.length hi = ds.length) : cutD ds lo hi = ds := by
  unfold cutD
  rw [h.1, h.2]
  simp
theorem sl_D (c : Bool) : SlR X (rDS X.K (gSl c)) := by
  intro pins st σ H v0 v vl vu lo hi sl Q I rv hs pl pu h
  obtain ⟨m, Hf, s, x, E, R, r1, hp⟩ := h
  unfold gSl at hp
  split at hp
  · rename_i z
    unfold Rep at r1
    subst r1
    split at hp
    · rename_i hl
      exact sl_str pins st σ H _ v vl vu lo hi sl Q I rv hs pl pu ⟨z, rfl, line_big hl, hp.ok R rep_str⟩
    · exact hp.elim
  · cases e : view s x with
    | none => rw [e] at hp; exact hp.elim
    | some p =>
      obtain ⟨t, ds⟩ := p
      obtain ⟨a, vs, rfl, q1, q2⟩ := view_ok R r1 e
      rw [e] at hp
      cases t with
      | lst => exact sl_list pins st σ H _ v vl vu lo hi sl Q I rv hs pl pu ⟨a, vs, rfl, SqL.of q1, Post.newB R (q2.cutV lo hi) hp⟩
      | sq => exact sl_list pins st σ H _ v vl vu lo hi sl Q I rv hs pl pu ⟨a, vs, rfl, q1, Post.newB R (q2.cutV lo hi) hp⟩
      | tup =>
        refine sl_tupA pins st σ H _ v vl vu lo hi sl Q I rv hs pl pu ⟨a, vs, rfl, q1, fun hw => ?_, fun _ => Post.newT R (q2.cutV lo hi) hp⟩
        have ex := view_tup R e
        subst ex
        rw [q2.length] at hw
        dsimp only at hp
        rw [cutD_all hw] at hp
        exact hp.ok R r1
      | _ => exact hp.elim

/-! ### o[i] = v, lists -/
def gSetI (x y z : D) (s : Sto) : R Unit := match x, y with
  | .cell l k, .int i => match s.get l k with
    | some (.live .lst ds) => match ixN ds.length i with
      | some j => if z.le l then .ok () (s.set l k (.live .lst (ds.set j z))) else .stuck
      | none => .stuck
    | _ => .stuck
  | _, _ => .stuck
theorem leL_set {n : Nat} {z : D} (hz : z.le n = true) : ∀ {ds : List D} (j : Nat), D.leL n ds = true → D.leL n (ds.set j z) = true
  | [], _, h => h
  | d :: ds, 0, h => by
    unfold D.leL at h
    rw [Bool.and_eq_true] at h
    rw [List.set_cons_zero]
    unfold D.leL
    rw [Bool.and_eq_true]
    exact ⟨hz, h.2⟩
  | d :: ds, j + 1, h => by
    unfold D.leL at h
    rw [Bool.and_eq_true] at h
    rw [List.set_cons_succ]
    unfold D.leL
    rw [Bool.and_eq_true]
    exact ⟨h.1, leL_set hz j h.2⟩
theorem leL_append {n : Nat} : ∀ {ds es : List D}, D.leL n ds = true → D.leL n es = true → D.leL n (ds ++ es) = true
  | [], _, _, h => h
  | d :: ds, es, h, h' => by
    unfold D.leL at h
    rw [Bool.and_eq_true] at h
    show D.leL n (d :: (ds ++ es)) = true
    unfold D.leL
    rw [Bool.and_eq_true]
    exact ⟨h.1, leL_append h.2 h'⟩
theorem set_L : PSet X (rD3 X.K gSetI) := by
  intro pins st σ H v0 i0 w0 ov iv u Q I ro ri rv h
  obtain ⟨m, Hf, s, x, y, z, E, R, r1, r2, r3, hp⟩ := h
  unfold gSetI at hp
  split at hp
  · rename_i l k i
    unfold Rep at r2
    subst r2
    cases e : s.get l k with
    | none => rw [e] at hp; exact hp.elim
    | some c =>
      rw [e] at hp
      cases c with
      | live t ds =>
        cases t with
        | lst =>
          dsimp only at hp
          cases e2 : ixN ds.length i with
          | none => rw [e2] at hp; exact hp.elim
          | some j =>
            rw [e2] at hp
            dsimp only at hp
            by_cases hz : z.le l = true
            · rw [if_pos hz] at hp
              obtain ⟨a, vs, rfl, q1, q2, q3, q4⟩ := R.live r1 e
              refine set_list pins st σ H _ _ w0 ov iv u Q I ro ri rv ⟨a, vs, i, j, rfl, rfl, q2, by rw [q3.length]; exact e2, ?_⟩
              exact hp m Hf _ () (MExt.refl _) (Same.refl _) (R.write (t' := .lst) e q1 (show upd H a (.lst (vs.set j w0)) a = some (.lst (vs.set j w0)) from upd_same) (q3.set r3 j) (leL_set hz j q4)) trivial
            · rw [if_neg hz] at hp; exact hp.elim
        | _ => exact hp.elim
      | _ => exact hp.elim
  · exact hp.elim
end
end Bw

namespace Bw
open PySem PySem.Spec PyProof.Rows L2

/-! ### lists of one sort -/
def intsD : List D → Option (List Int)
  | [] => some []
  | .int i :: ds => (intsD ds).map (i :: ·)
  | _ :: _ => none
def blsD : List D → Option (List Bool)
  | [] => some []
  | .bl i :: ds => (blsD ds).map (i :: ·)
  | _ :: _ => none
def strsD : List D → Option (List Str)
  | [] => some []
  | .str i :: ds => (strsD ds).map (i :: ·)
  | _ :: _ => none
@[simp] theorem intsD_map (ns : List Int) : intsD (ns.map .int) = some ns := by
  induction ns with
  | nil => rfl
  | cons n ns ih => show (intsD (ns.map .int)).map _ = _; rw [ih]; rfl
@[simp] theorem blsD_map (ns : List Bool) : blsD (ns.map .bl) = some ns := by
  induction ns with
  | nil => rfl
  | cons n ns ih => show (blsD (ns.map .bl)).map _ = _; rw [ih]; rfl
@[simp] theorem strsD_map (ns : List Str) : strsD (ns.map .str) = some ns := by
  induction ns with
  | nil => rfl
  | cons n ns ih => show (strsD (ns.map .str)).map _ = _; rw [ih]; rfl
section
variable {K : PySem.W.Frag} {m : CM} {Hf : Hp}
theorem intsD_ok : ∀ {ds : List D} {vs : List V} {ns : List Int}, intsD ds = some ns → RepL K m Hf ds vs → vs = ns.map V.int
  | [], vs, ns, h, r => by unfold intsD at h; cases h; exact r.nilI
  | d :: ds, vs, ns, h, r => by
    obtain ⟨v, q, rfl, r1, r2⟩ := r.consI
    cases d with
    | int i =>
      unfold intsD at h
      cases e : intsD ds with
      | none => rw [e] at h; cases h
      | some ms =>
        rw [e] at h
        cases h
        unfold Rep at r1
        rw [r1, intsD_ok e r2]
        rfl
    | _ => unfold intsD at h; cases h
theorem blsD_ok : ∀ {ds : List D} {vs : List V} {ns : List Bool}, blsD ds = some ns → RepL K m Hf ds vs → vs = ns.map V.bl
  | [], vs, ns, h, r => by unfold blsD at h; cases h; exact r.nilI
  | d :: ds, vs, ns, h, r => by
    obtain ⟨v, q, rfl, r1, r2⟩ := r.consI
    cases d with
    | bl i =>
      unfold blsD at h
      cases e : blsD ds with
      | none => rw [e] at h; cases h
      | some ms =>
        rw [e] at h
        cases h
        unfold Rep at r1
        rw [r1, blsD_ok e r2]
        rfl
    | _ => unfold blsD at h; cases h
theorem strsD_ok : ∀ {ds : List D} {vs : List V} {ns : List Str}, strsD ds = some ns → RepL K m Hf ds vs → vs = ns.map V.str
  | [], vs, ns, h, r => by unfold strsD at h; cases h; exact r.nilI
  | d :: ds, vs, ns, h, r => by
    obtain ⟨v, q, rfl, r1, r2⟩ := r.consI
    cases d with
    | str i =>
      unfold strsD at h
      cases e : strsD ds with
      | none => rw [e] at h; cases h
      | some ms =>
        rw [e] at h
        cases h
        unfold Rep at r1
        rw [r1, strsD_ok e r2]
        rfl
    | _ => unfold strsD at h; cases h
end

/-! ### built-ins -/
def gLen (ds : List D) (s : Sto) : R D := match ds with
  | [.str z] => if z.length ≤ 1000000 then .ok (.int z.length) s else .stuck
  | [d] => match seqOf s d with
    | some es => .ok (.int es.length) s
    | none => .stuck
  | _ => .stuck
def gAbs (ds : List D) (s : Sto) : R D := match ds with
  | [.int i] => .ok (.int (if i < 0 then -i else i)) s
  | _ => .stuck
def maxL : List Int → Int
  | [] => 0
  | [n] => n
  | n :: ns => let k := maxL ns; if k > n then k else n
def minL : List Int → Int
  | [] => 0
  | [n] => n
  | n :: ns => let k := minL ns; if k < n then k else n
def seqL (s : Sto) (d : D) : Option (List D) := match view s d with
  | some (.lst, ds) => some ds
  | some (.sq, ds) => some ds
  | _ => none
def gMax (ds : List D) (s : Sto) : R D := match ds with
  | [.int i, .int j] => .ok (.int (if j > i then j else i)) s
  | [d] => match (seqL s d).bind intsD with
    | some ns => if ns.isEmpty then .stuck else .ok (.int (maxL ns)) s
    | none => .stuck
  | _ => .stuck
def gMin (ds : List D) (s : Sto) : R D := match ds with
  | [.int i, .int j] => .ok (.int (if j < i then j else i)) s
  | [d] => match (seqL s d).bind intsD with
    | some ns => if ns.isEmpty then .stuck else .ok (.int (minL ns)) s
    | none => .stuck
  | _ => .stuck
def gSum (ds : List D) (s : Sto) : R D := match ds with
  | [d] => match (seqL s d).bind intsD with
    | some ns => .ok (.int ns.sum) s
    | none => .stuck
  | _ => .stuck
def gAll (ds : List D) (s : Sto) : R D := match ds with
  | [d] => match (seqL s d).bind blsD with
    | some ns => .ok (.bl (ns.all id)) s
    | none => .stuck
  | _ => .stuck
def gAny (ds : List D) (s : Sto) : R D := match ds with
  | [d] => match (seqL s d).bind blsD with
    | some ns => .ok (.bl (ns.any id)) s
    | none => .stuck
  | _ => .stuck
def gDivmod (ds : List D) (s : Sto) : R D := match ds with
  | [.int i, .int j] => if 0 < j ∧ Builtin.divisionGoesByPylong i j = false then .ok (.node .tup [.int (i / j), .int (i % j)]) s else .stuck
  | _ => .stuck
def gList (c : Bool) (ds : List D) (s : Sto) : R D := match ds with
  | [d] => match seqOf s d with
    | some es => bk c es s
    | none => .stuck
  | _ => .stuck
/-- a type's name -/
def tyOfD (s : Sto) : D → Option String
  | .non => some "NoneType"
  | .bl _ => some "bool"
  | .int _ => some "int"
  | .str _ => some "str"
  | d => match view s d with
    | some (.lst, _) => some "list"
    | some (.tup, _) => some "tuple"
    | some (.dK _, _) => some "dict"
    | _ => none
def isiB (a b : String) : Option Bool := if a = b then some true else if b = "int" then some (a == "bool") else if b = "str" ∨ b = "bool" ∨ b = "list" ∨ b = "tuple" ∨ b = "dict" then some false else none
def gIsi (ds : List D) (s : Sto) : R D := match ds with
  | [d, .ty n] => match tyOfD s d with
    | some a => match isiB a n with
      | some b => .ok (.bl b) s
      | none => .stuck
    | none => .stuck
  | _ => .stuck
theorem maxL_mem : ∀ {ns : List Int}, ns ≠ [] → maxL ns ∈ ns ∧ ∀ y ∈ ns, y ≤ maxL ns
  | [], h => absurd rfl h
  | [n], _ => by simp [maxL]
  | n :: k :: ns, _ => by
    obtain ⟨h1, h2⟩ := maxL_mem (ns := k :: ns) (by simp)
    show (if maxL (k :: ns) > n then maxL (k :: ns) else n) ∈ _ ∧ ∀ y ∈ n :: k :: ns, y ≤ if maxL (k :: ns) > n then maxL (k :: ns) else n
    split
    · refine ⟨List.mem_cons_of_mem _ h1, fun y hy => ?_⟩
      rcases List.mem_cons.mp hy with rfl | hy
      · omega
      · exact h2 y hy
    · refine ⟨List.mem_cons_self .., fun y hy => ?_⟩
      rcases List.mem_cons.mp hy with rfl | hy
      · omega
      · have := h2 y hy; omega
theorem minL_mem : ∀ {ns : List Int}, ns ≠ [] → minL ns ∈ ns ∧ ∀ y ∈ ns, minL ns ≤ y
  | [], h => absurd rfl h
  | [n], _ => by simp [minL]
  | n :: k :: ns, _ => by
    obtain ⟨h1, h2⟩ := minL_mem (ns := k :: ns) (by simp)
    show (if minL (k :: ns) < n then minL (k :: ns) else n) ∈ _ ∧ ∀ y ∈ n :: k :: ns, (if minL (k :: ns) < n then minL (k :: ns) else n) ≤ y
    split
    · refine ⟨List.mem_cons_of_mem _ h1, fun y hy => ?_⟩
      rcases List.mem_cons.mp hy with rfl | hy
      · omega
      · exact h2 y hy
    · refine ⟨List.mem_cons_self .., fun y hy => ?_⟩
      rcases List.mem_cons.mp hy with rfl | hy
      · omega
      · have := h2 y hy; omega
theorem seqL_ok {K : PySem.W.Frag} {m : CM} {Hf H : Hp} {s : Sto} {d : D} {v : V} {ds : List D} (R : Rel K m Hf s H) (r : Rep K m Hf d v) (h : seqL s d = some ds) : ∃ a vs, v = .ref a ∧ SqL K H a vs ∧ RepL K m Hf ds vs := by
  unfold seqL at h
  cases e : view s d with
  | none => rw [e] at h; cases h
  | some p =>
    obtain ⟨t, es⟩ := p
    obtain ⟨a, vs, rfl, h2, h3⟩ := view_ok R r e
    rw [e] at h
    cases t with
    | lst => cases h; exact ⟨a, vs, rfl, SqL.of h2, h3⟩
    | sq => cases h; exact ⟨a, vs, rfl, h2, h3⟩
    | _ => cases h
theorem RepL.one {K : PySem.W.Frag} {m : CM} {Hf : Hp} {d : D} {vs : List V} (r : RepL K m Hf [d] vs) : ∃ v, vs = [v] ∧ Rep K m Hf d v := by
  obtain ⟨v, q, rfl, r1, r2⟩ := r.consI
  rw [r2.nilI]
  exact ⟨v, rfl, r1⟩
theorem RepL.two {K : PySem.W.Frag} {m : CM} {Hf : Hp} {d e : D} {vs : List V} (r : RepL K m Hf [d, e] vs) : ∃ v u, vs = [v, u] ∧ Rep K m Hf d v ∧ Rep K m Hf e u := by
  obtain ⟨v, q, rfl, r1, r2⟩ := r.consI
  obtain ⟨u, rfl, r3⟩ := r2.one
  exact ⟨v, u, rfl, r1, r3⟩
section
variable {X : Cx}
theorem cr_len : CallR X (.builtin "len") (rDat X.K gLen) := by
  intro pins st σ H vs us Q I rv h
  obtain ⟨m, Hf, s, ds, E, R, r, hp⟩ := h
  unfold gLen at hp
  split at hp
  · rename_i z
    obtain ⟨v, rfl, r1⟩ := r.one
    unfold Rep at r1
    subst r1
    split at hp
    · rename_i hl
      exact call_len pins st σ H _ us Q I rv ⟨_, _, rfl, ⟨line_big hl, rfl⟩, hp.ok R rep_int⟩
    · exact hp.elim
  · rename_i d _
    obtain ⟨v, rfl, r1⟩ := r.one
    cases e : seqOf s d with
    | none => rw [e] at hp; exact hp.elim
    | some es =>
      rw [e] at hp
      obtain ⟨a, ws, rfl, q1, q2⟩ := seqOf_ok R r1 e
      refine call_len pins st σ H _ us Q I rv ⟨_, _, rfl, q1.imp (fun q => ⟨ws, q, rfl⟩) (fun q => ⟨ws, q, rfl⟩), ?_⟩
      rw [q2.length]
      exact hp.ok R rep_int
  · exact hp.elim
theorem cr_abs : CallR X (.builtin "abs") (rDat X.K gAbs) := by
  intro pins st σ H vs us Q I rv h
  obtain ⟨m, Hf, s, ds, E, R, r, hp⟩ := h
  unfold gAbs at hp
  split at hp
  · obtain ⟨v, rfl, r1⟩ := r.one
    unfold Rep at r1
    subst r1
    exact call_abs pins st σ H _ us Q I rv ⟨_, rfl, hp.ok R rep_int⟩
  · exact hp.elim
theorem cr_maxD (hc : X.calm = true) : CallR X (.builtin "max") (rDat X.K gMax) := by
  intro pins st σ H vs us Q I rv h
  obtain ⟨m, Hf, s, ds, E, R, r, hp⟩ := h
  unfold gMax at hp
  split at hp
  · obtain ⟨v, u, rfl, r1, r2⟩ := r.two
    unfold Rep at r1 r2
    subst r1 r2
    exact call_max2 hc pins st σ H _ us Q I rv ⟨_, _, rfl, hp.ok R rep_int⟩
  · rename_i d
    obtain ⟨v, rfl, r1⟩ := r.one
    cases e : seqL s d with
    | none => rw [e] at hp; exact hp.elim
    | some es =>
      rw [e] at hp
      obtain ⟨a, ws, rfl, q1, q2⟩ := seqL_ok R r1 e
      dsimp only [Option.bind] at hp
      cases e2 : intsD es with
      | none => rw [e2] at hp; exact hp.elim
      | some ns =>
        rw [e2] at hp
        have e3 := intsD_ok e2 q2
        subst e3
        dsimp only at hp
        cases ns with
        | nil => exact hp.elim
        | cons n ns =>
          refine cr_max hc pins st σ H _ us Q I rv ⟨a, _, rfl, q1, Nat.succ_pos _, fun k hk hy => ?_⟩
          obtain ⟨h1, h2⟩ := maxL_mem (ns := n :: ns) (by simp)
          have : k = maxL (n :: ns) := by have := h2 k hk; have := hy _ h1; omega
          rw [this]
          exact hp.ok R rep_int
  · exact hp.elim
theorem cr_minD (hc : X.calm = true) : CallR X (.builtin "min") (rDat X.K gMin) := by
  intro pins st σ H vs us Q I rv h
  obtain ⟨m, Hf, s, ds, E, R, r, hp⟩ := h
  unfold gMin at hp
  split at hp
  · obtain ⟨v, u, rfl, r1, r2⟩ := r.two
    unfold Rep at r1 r2
    subst r1 r2
    exact call_min2 hc pins st σ H _ us Q I rv ⟨_, _, rfl, hp.ok R rep_int⟩
  · rename_i d
    obtain ⟨v, rfl, r1⟩ := r.one
    cases e : seqL s d with
    | none => rw [e] at hp; exact hp.elim
    | some es =>
      rw [e] at hp
      obtain ⟨a, ws, rfl, q1, q2⟩ := seqL_ok R r1 e
      dsimp only [Option.bind] at hp
      cases e2 : intsD es with
      | none => rw [e2] at hp; exact hp.elim
      | some ns =>
        rw [e2] at hp
        have e3 := intsD_ok e2 q2
        subst e3
        dsimp only at hp
        cases ns with
        | nil => exact hp.elim
        | cons n ns =>
          refine cr_min hc pins st σ H _ us Q I rv ⟨a, _, rfl, q1, Nat.succ_pos _, fun k hk hy => ?_⟩
          obtain ⟨h1, h2⟩ := minL_mem (ns := n :: ns) (by simp)
          have : k = minL (n :: ns) := by have := h2 k hk; have := hy _ h1; omega
          rw [this]
          exact hp.ok R rep_int
  · exact hp.elim
theorem cr_sumD (hc : X.calm = true) : CallR X (.builtin "sum") (rDat X.K gSum) := by
  intro pins st σ H vs us Q I rv h
  obtain ⟨m, Hf, s, ds, E, R, r, hp⟩ := h
  unfold gSum at hp
  split at hp
  · rename_i d
    obtain ⟨v, rfl, r1⟩ := r.one
    cases e : seqL s d with
    | none => rw [e] at hp; exact hp.elim
    | some es =>
      rw [e] at hp
      obtain ⟨a, ws, rfl, q1, q2⟩ := seqL_ok R r1 e
      dsimp only [Option.bind] at hp
      cases e2 : intsD es with
      | none => rw [e2] at hp; exact hp.elim
      | some ns =>
        rw [e2] at hp
        have e3 := intsD_ok e2 q2
        subst e3
        exact cr_sum hc pins st σ H _ us Q I rv ⟨a, _, rfl, q1, hp.ok R rep_int⟩
  · exact hp.elim
theorem cr_allD (hc : X.calm = true) : CallR X (.builtin "all") (rDat X.K gAll) := by
  intro pins st σ H vs us Q I rv h
  obtain ⟨m, Hf, s, ds, E, R, r, hp⟩ := h
  unfold gAll at hp
  split at hp
  · rename_i d
    obtain ⟨v, rfl, r1⟩ := r.one
    cases e : seqL s d with
    | none => rw [e] at hp; exact hp.elim
    | some es =>
      rw [e] at hp
      obtain ⟨a, ws, rfl, q1, q2⟩ := seqL_ok R r1 e
      dsimp only [Option.bind] at hp
      cases e2 : blsD es with
      | none => rw [e2] at hp; exact hp.elim
      | some ns =>
        rw [e2] at hp
        have e3 := blsD_ok e2 q2
        subst e3
        exact cr_all hc pins st σ H _ us Q I rv ⟨a, _, rfl, q1, hp.ok R rep_bl⟩
  · exact hp.elim
theorem cr_anyD (hc : X.calm = true) : CallR X (.builtin "any") (rDat X.K gAny) := by
  intro pins st σ H vs us Q I rv h
  obtain ⟨m, Hf, s, ds, E, R, r, hp⟩ := h
  unfold gAny at hp
  split at hp
  · rename_i d
    obtain ⟨v, rfl, r1⟩ := r.one
    cases e : seqL s d with
    | none => rw [e] at hp; exact hp.elim
    | some es =>
      rw [e] at hp
      obtain ⟨a, ws, rfl, q1, q2⟩ := seqL_ok R r1 e
      dsimp only [Option.bind] at hp
      cases e2 : blsD es with
      | none => rw [e2] at hp; exact hp.elim
      | some ns =>
        rw [e2] at hp
        have e3 := blsD_ok e2 q2
        subst e3
        exact cr_any hc pins st σ H _ us Q I rv ⟨a, _, rfl, q1, hp.ok R rep_bl⟩
  · exact hp.elim
theorem cr_divmod : CallR X (.builtin "divmod") (rDat X.K gDivmod) := by
  intro pins st σ H vs us Q I rv h
  obtain ⟨m, Hf, s, ds, E, R, r, hp⟩ := h
  unfold gDivmod at hp
  split at hp
  · obtain ⟨v, u, rfl, r1, r2⟩ := r.two
    unfold Rep at r1 r2
    subst r1 r2
    split at hp
    · rename_i hc
      exact call_divmodW pins st σ H _ us Q I rv ⟨_, _, rfl, hc, Post.newT R (RepL.cons rep_int (RepL.cons rep_int RepL.nil)) hp⟩
    · exact hp.elim
  · exact hp.elim
theorem cr_list (c : Bool) : CallR X (.type "list") (rDat X.K (gList c)) := by
  intro pins st σ H vs us Q I rv h
  obtain ⟨m, Hf, s, ds, E, R, r, hp⟩ := h
  unfold gList at hp
  split at hp
  · rename_i d
    obtain ⟨v, rfl, r1⟩ := r.one
    cases e : seqOf s d with
    | none => rw [e] at hp; exact hp.elim
    | some es =>
      rw [e] at hp
      obtain ⟨a, ws, rfl, q1, q2⟩ := seqOf_ok R r1 e
      exact call_list_of pins st σ H _ us Q I rv ⟨a, ws, rfl, q1, Post.newB R q2 hp⟩
  · exact hp.elim
theorem tyOf_ok {m : CM} {Hf H : Hp} {s : Sto} {d : D} {v : V} {a : String} {pins : List (Addr × Obj)} {σ : L2.St} {st : Shared} (I : Inv X pins σ H st) (R : Rel X.K m Hf s H) (r : Rep X.K m Hf d v) (h : tyOfD s d = some a) : TyX X.K H v (.type a) := by
  have seq : (match view s d with
    | some (.lst, _) => some "list"
    | some (.tup, _) => some "tuple"
    | some (.dK _, _) => some "dict"
    | _ => (none : Option String)) = some a → TyX X.K H v (.type a) := by
    intro h
    cases e : view s d with
    | none => rw [e] at h; cases h
    | some p =>
      obtain ⟨t, ds⟩ := p
      obtain ⟨b, vs, rfl, h2, h3⟩ := view_ok R r e
      rw [e] at h
      cases t with
      | lst => cases h; exact .base (.lst h2)
      | tup =>
        cases h
        rcases h2 with (h2 | ⟨o, h2⟩) | ⟨o, its, n, h4, h5, _⟩
        · exact .base (.tup h2)
        · exact .fTuple h2
        · exact .kTuple h4 h5
      | dK ks =>
        cases h
        rcases h2.2 with h2 | ⟨o, h2⟩
        · exact .base (.dK h2)
        · exact .fDict h2
      | _ => cases h
  cases d with
  | non => unfold tyOfD at h; cases h; unfold Rep at r; subst r; exact .base .non
  | bl b => unfold tyOfD at h; cases h; unfold Rep at r; subst r; exact .base (.bl _)
  | int i => unfold tyOfD at h; cases h; unfold Rep at r; subst r; exact .base (.int _)
  | str x => unfold tyOfD at h; cases h; unfold Rep at r; subst r; exact .base (.str _)
  | _ => exact seq h
theorem isiB_ok {a b : String} {r : Bool} (ha : a = "NoneType" ∨ a = "bool" ∨ a = "int" ∨ a = "str" ∨ a = "list" ∨ a = "tuple" ∨ a = "dict") (h : isiB a b = some r) : kitB a b = some r := by
  unfold isiB at h
  by_cases e : a = b
  · subst e
    rw [if_pos rfl] at h
    cases h
    unfold kitB
    rw [if_pos (by simp)]
  · rw [if_neg e] at h
    by_cases e2 : b = "int"
    · subst e2
      rw [if_pos rfl] at h
      cases h
      rcases ha with rfl | rfl | rfl | rfl | rfl | rfl | rfl <;> first | exact absurd rfl e | decide +kernel
    · rw [if_neg e2] at h
      by_cases e3 : b = "str" ∨ b = "bool" ∨ b = "list" ∨ b = "tuple" ∨ b = "dict"
      · rw [if_pos e3] at h
        cases h
        rcases e3 with rfl | rfl | rfl | rfl | rfl <;> rcases ha with rfl | rfl | rfl | rfl | rfl | rfl | rfl <;> first | exact absurd rfl e | decide +kernel
      · rw [if_neg e3] at h; cases h
theorem tyOf_one {s : Sto} {d : D} {a : String} (h : tyOfD s d = some a) : a = "NoneType" ∨ a = "bool" ∨ a = "int" ∨ a = "str" ∨ a = "list" ∨ a = "tuple" ∨ a = "dict" := by
  unfold tyOfD at h
  split at h
  all_goals first | (cases h; simp; done) | skip
  split at h <;> first | (cases h; simp; done) | cases h
theorem cr_isi : CallR X (.builtin "isinstance") (rDat X.K gIsi) := by
  intro pins st σ H vs us Q I rv h
  obtain ⟨m, Hf, s, ds, E, R, r, hp⟩ := h
  unfold gIsi at hp
  split at hp
  · rename_i d n
    obtain ⟨v, u, rfl, r1, r2⟩ := r.two
    unfold Rep at r2
    subst r2
    cases e : tyOfD s d with
    | none => rw [e] at hp; exact hp.elim
    | some a =>
      rw [e] at hp
      dsimp only at hp
      cases e2 : isiB a n with
      | none => rw [e2] at hp; exact hp.elim
      | some b =>
        rw [e2] at hp
        exact call_isi pins st σ H _ us Q I rv ⟨v, _, _, _, b, rfl, .ty n, tyOf_ok I R r1 e, kit_ty (isiB_ok (tyOf_one e) e2), hp.ok R rep_bl⟩
  · exact hp.elim

/-! ### methods of texts and lists -/
def gJoin (x : D) (ys : List D) (s : Sto) : R D := match x, ys with
  | .str a, [d] => match (seqOf s d).bind strsD with
    | some zs => if (zs.map (·.length)).sum + zs.length * a.length ≤ 1000000 then .ok (.str (Txt.join a zs)) s else .stuck
    | none => .stuck
  | _, _ => .stuck
theorem mr_join : MtR X "str.join" (rDM X.K gJoin) := by
  intro pins st σ H v0 vs v us Q I rv rvs h
  obtain ⟨m, Hf, s, x, ys, E, R, r1, r2, hp⟩ := h
  unfold gJoin at hp
  split at hp
  · rename_i a d
    unfold Rep at r1
    subst r1
    obtain ⟨u, rfl, r3⟩ := r2.one
    cases e : seqOf s d with
    | none => rw [e] at hp; exact hp.elim
    | some es =>
      rw [e] at hp
      obtain ⟨b, ws, rfl, q1, q2⟩ := seqOf_ok R r3 e
      dsimp only [Option.bind] at hp
      cases e2 : strsD es with
      | none => rw [e2] at hp; exact hp.elim
      | some zs =>
        rw [e2] at hp
        dsimp only at hp
        have e3 := strsD_ok e2 q2
        subst e3
        split at hp
        · rename_i hl
          exact mt_join pins st σ H _ _ v us Q I rv rvs ⟨a, b, zs, rfl, rfl, q1, by omega, hp.ok R rep_str⟩
        · exact hp.elim
  · exact hp.elim
/-- a list's method that changes it: what it becomes, what comes back -/
def gLm (f : List D → List D → Sto → Option (List D × D)) (x : D) (ys : List D) (s : Sto) : R D := match x with
  | .cell l k => match s.get l k with
    | some (.live .lst ds) => match f ds ys s with
      | some (es, d) => if D.leL l es = true then .ok d (s.set l k (.live .lst es)) else .stuck
      | none => .stuck
    | _ => .stuck
  | _ => .stuck
def fAppend (ds ys : List D) (_ : Sto) : Option (List D × D) := match ys with
  | [y] => if ds.length ≤ 1000000 then some (ds ++ [y], .non) else none
  | _ => none
def fExtend (ds ys : List D) (s : Sto) : Option (List D × D) := match ys with
  | [y] => match view s y with
    | some (.lst, es) => if ds.length + es.length ≤ 1000000 then some (ds ++ es, .non) else none
    | _ => none
  | _ => none
def fPop (ds ys : List D) (_ : Sto) : Option (List D × D) := match ys with
  | [.int i] => if -1000000 ≤ i ∧ i ≤ 1000000 then match seqIndex? i ds.length with
    | some k => (ds[k]?).map fun d => (ds.eraseIdx k, d)
    | none => none else none
  | _ => none
def fReverse (ds ys : List D) (_ : Sto) : Option (List D × D) := match ys with
  | [] => some (ds.reverse, .non)
  | _ => none
def fClear (_ ys : List D) (_ : Sto) : Option (List D × D) := match ys with
  | [] => some ([], .non)
  | _ => none
def fInsert (ds ys : List D) (_ : Sto) : Option (List D × D) := match ys with
  | [.int i, y] => if ds.length ≤ 1000000 ∧ 0 ≤ i ∧ i ≤ 1000000 then some (ds.take i.toNat ++ [y] ++ ds.drop i.toNat, .non) else none
  | _ => none
theorem lm_ok {id : String} {r : V → List V → Hp → VK → Prop} {f : List D → List D → Sto → Option (List D × D)} (hm : MtM X id r)
    (hf : ∀ {m : CM} {Hf H : Hp} {s : Sto} {ds ys es : List D} {d : D} {a : Addr} {vs us : List V} {Q : VK}, Rel X.K m Hf s H → H a = some (.lst vs) → RepL X.K m Hf ds vs → RepL X.K m Hf ys us → f ds ys s = some (es, d) →
      (∀ ws v, RepL X.K m Hf es ws → Rep X.K m Hf d v → Q v (upd H a (.lst ws))) → r (.ref a) us H Q) : MtR X id (rDM X.K (gLm f)) := by
  intro pins st σ H v0 vs v us Q I rv rvs h
  obtain ⟨m, Hf, s, x, ys, E, R, r1, r2, hp⟩ := h
  unfold gLm at hp
  split at hp
  · rename_i l k
    cases e : s.get l k with
    | none => rw [e] at hp; exact hp.elim
    | some c =>
      rw [e] at hp
      cases c with
      | live t ds =>
        cases t with
        | lst =>
          dsimp only at hp
          cases e2 : f ds ys s with
          | none => rw [e2] at hp; exact hp.elim
          | some p =>
            obtain ⟨es, d⟩ := p
            rw [e2] at hp
            dsimp only at hp
            by_cases hl : D.leL l es = true
            · rw [if_pos hl] at hp
              obtain ⟨a, ws, rfl, q1, q2, q3, q4⟩ := R.live r1 e
              exact hm pins st σ H _ _ v us Q I rv rvs (hf R q2 q3 r2 e2 fun zs v' w1 w2 => hp m Hf _ v' (MExt.refl _) (Same.refl _) (R.write (t' := .lst) e q1 (show upd H a (.lst zs) a = some (.lst zs) from upd_same) w1 hl) w2)
            · rw [if_neg hl] at hp; exact hp.elim
        | _ => exact hp.elim
      | _ => exact hp.elim
  · exact hp.elim
theorem mr_append : MtR X "list.append" (rDM X.K (gLm fAppend)) := lm_ok mt_append fun {m Hf H s ds ys es d a vs us Q} R ha r1 r2 h q => by
  unfold fAppend at h
  split at h
  · obtain ⟨u, rfl, r3⟩ := r2.one
    split at h
    · rename_i hl
      cases h
      have hz := sizeLine_eq
      have hv := r1.length
      exact ⟨a, vs, u, rfl, rfl, ha, by omega, q _ _ (r1.append (RepL.cons r3 RepL.nil)) rep_non⟩
    · cases h
  · cases h
theorem mr_extend : MtR X "list.extend" (rDM X.K (gLm fExtend)) := lm_ok mt_extend fun {m Hf H s ds ys es d a vs us Q} R ha r1 r2 h q => by
  unfold fExtend at h
  split at h
  · rename_i y
    obtain ⟨u, rfl, r3⟩ := r2.one
    cases e : view s y with
    | none => rw [e] at h; cases h
    | some p =>
      obtain ⟨t, zs⟩ := p
      obtain ⟨b, ws, rfl, q1, q2⟩ := view_ok R r3 e
      rw [e] at h
      cases t with
      | lst =>
        dsimp only at h
        split at h
        · rename_i hl
          cases h
          exact ⟨a, b, vs, ws, rfl, rfl, ha, q1, line_big (by rw [r1.length, q2.length]; exact hl), q _ _ (r1.append q2) rep_non⟩
        · cases h
      | _ => cases h
  · cases h
theorem RepL.erase {K : PySem.W.Frag} {m : CM} {Hf : Hp} : ∀ {ds : List D} {vs : List V} (i : Nat), RepL K m Hf ds vs → RepL K m Hf (ds.eraseIdx i) (vs.eraseIdx i)
  | [], _, _, h => by rw [h.nilI]; exact RepL.nil
  | _ :: _, _, 0, h => by
    obtain ⟨u, r, rfl, h1, h2⟩ := h.consI
    exact h2
  | _ :: _, _, i + 1, h => by
    obtain ⟨u, r, rfl, h1, h2⟩ := h.consI
    exact RepL.cons h1 (RepL.erase i h2)
theorem RepL.rev {K : PySem.W.Frag} {m : CM} {Hf : Hp} : ∀ {ds : List D} {vs : List V}, RepL K m Hf ds vs → RepL K m Hf ds.reverse vs.reverse
  | [], _, h => by rw [h.nilI]; exact RepL.nil
  | _ :: _, _, h => by
    obtain ⟨u, r, rfl, h1, h2⟩ := h.consI
    rw [List.reverse_cons, List.reverse_cons]
    exact (RepL.rev h2).append (RepL.cons h1 RepL.nil)
theorem mr_pop : MtR X "list.pop" (rDM X.K (gLm fPop)) := lm_ok mt_popAt fun {m Hf H s ds ys es d a vs us Q} R ha r1 r2 h q => by
  unfold fPop at h
  split at h
  · rename_i i
    obtain ⟨u, rfl, r3⟩ := r2.one
    unfold Rep at r3
    subst r3
    split at h
    · rename_i hl
      cases e : seqIndex? i ds.length with
      | none => rw [e] at h; cases h
      | some k =>
        rw [e] at h
        dsimp only at h
        cases e2 : ds[k]? with
        | none => rw [e2] at h; cases h
        | some y =>
          rw [e2] at h
          cases h
          obtain ⟨v, q1, q2⟩ := r1.get e2
          exact ⟨a, vs, i, k, v, rfl, rfl, ha, by omega, by omega, by rw [r1.length]; exact e, q1, q _ _ (r1.erase k) q2⟩
    · cases h
  · cases h
theorem mr_reverse : MtR X "list.reverse" (rDM X.K (gLm fReverse)) := lm_ok mt_reverse fun {m Hf H s ds ys es d a vs us Q} R ha r1 r2 h q => by
  unfold fReverse at h
  split at h
  · cases h
    rw [r2.nilI]
    exact ⟨a, vs, rfl, rfl, ha, q _ _ r1.rev rep_non⟩
  · cases h
theorem mr_clear : MtR X "list.clear" (rDM X.K (gLm fClear)) := lm_ok mt_clear fun {m Hf H s ds ys es d a vs us Q} R ha r1 r2 h q => by
  unfold fClear at h
  split at h
  · cases h
    rw [r2.nilI]
    exact ⟨a, vs, rfl, rfl, ha, q _ _ RepL.nil rep_non⟩
  · cases h
theorem mr_insert : MtR X "list.insert" (rDM X.K (gLm fInsert)) := lm_ok mt_insert fun {m Hf H s ds ys es d a vs us Q} R ha r1 r2 h q => by
  unfold fInsert at h
  split at h
  · rename_i i y
    obtain ⟨u1, u2, rfl, r3, r4⟩ := r2.two
    unfold Rep at r3
    subst r3
    split at h
    · rename_i hl
      cases h
      have hz := sizeLine_eq
      have hv := r1.length
      exact ⟨a, vs, i, u2, rfl, rfl, ha, by omega, hl.2.1, by omega, q _ _ (((r1.take _).append (RepL.cons r4 RepL.nil)).append (r1.drop _)) rep_non⟩
    · cases h
  · cases h
end
end Bw

namespace Bw
open PySem PySem.Spec PyProof.Rows L2

/-! ### a cell becomes a tree -/
def frz1 (d : D) (s : Sto) : R D := match d with
  | .cell l k => match s.get l k with
    | some (.live t ds) => .ok (.node t ds) (s.set l k .dead)
    | _ => .stuck
  | d => .ok d s
def mFrz (f : ME) : ME := fun ρ s => (f ρ s).bind frz1
section
variable {K : PySem.W.Frag} {m : CM} {Hf H : Hp} {s : Sto} {l k : Nat} {a : Addr}
theorem Rel.freeze {t : Tag} {ds : List D} {o : HO} (R : Rel K m Hf s H) (hg : s.get l k = some (.live t ds)) (ha : m.at_ l k = some a) : Same Hf (upd Hf a o) ∧ Rel K m (upd Hf a o) (s.set l k .dead) (upd H a o) := by
  obtain ⟨a', q1, ⟨u, q2⟩, z1, z2, z3, vs, z4, z5⟩ := R.cell l k _ hg
  rw [ha] at q1
  cases q1
  have eh : Same Hf (upd Hf a o) := Same.upd z1
  refine ⟨eh, Same.upd2 R.same, Same.updR R.lk z2, fun b u e => ?_, fun l' k' c e => ?_, fun l' k' b e => ?_, R.inj⟩
  · rw [upd_ne (ne_of_none e z2)]; exact R.ldj b u e
  · by_cases h : l = l' ∧ k = k'
    · obtain ⟨rfl, rfl⟩ := h
      rw [Sto.get_set_same hg] at e
      cases e
      exact ⟨a, ha, ⟨o, upd_same⟩, trivial⟩
    · rw [Sto.get_set_ne h] at e
      obtain ⟨b, w1, ⟨u', w2⟩, w3⟩ := R.cell l' k' c e
      have nb : b ≠ a := fun z => by
        subst z
        exact h (R.inj l k l' k' b ha w1)
      refine ⟨b, w1, ⟨u', by rw [upd_ne nb]; exact w2⟩, ?_⟩
      cases c with
      | live t2 ds2 =>
        obtain ⟨y1, y2, y3, vs2, y4, y5⟩ := w3
        exact ⟨by rw [upd_ne nb]; exact y1, y2, y3, vs2, y4.at_ (upd_ne nb), y5.mono (MExt.refl _) eh⟩
      | lock t2 ds2 =>
        obtain ⟨y1, y3, vs2, y4, y5⟩ := w3
        exact ⟨by rw [upd_ne nb]; exact y1, y3, vs2, y4, y5.mono (MExt.refl _) eh⟩
      | dead => trivial
  · obtain ⟨c, hc⟩ := R.dom l' k' b e
    by_cases h : l = l' ∧ k = k'
    · obtain ⟨rfl, rfl⟩ := h
      exact ⟨_, Sto.get_set_same hg⟩
    · exact ⟨c, by rw [Sto.get_set_ne h]; exact hc⟩
theorem upd_self {H : Hp} {a : Addr} {o : HO} (h : H a = some o) : upd H a o = H := by
  funext b
  by_cases hb : b = a
  · subst hb; rw [upd_same, h]
  · rw [upd_ne hb]
end
/-- or it is locked first -/
def orLock (Q : VK) : VK := fun v H => Q v H ∨ ∃ a u, v = .ref a ∧ H a = some u ∧ Mut (some u) ∧ ∀ od, Q v (upd H a (.frz od u))
theorem we_lock {X : Cx} {e : Expr} {σ : L2.St} {H : Hp} {Q : VK} (h : tWE X e σ H (orLock Q)) : tWE X e σ H Q := fun pins s I => wpAny_mono (h pins s I) (fun u s' ⟨v, H', I', rv, q⟩ => by
  rcases q with q | ⟨a, w, rfl, hw, mu, q⟩
  · exact ⟨v, H', I', rv, q⟩
  · obtain ⟨od, I2⟩ := I'.lock hw mu
    exact ⟨_, _, I2, rv, q od⟩) fun _ _ h => h
theorem frz_ok {K : PySem.W.Frag} {m : CM} {Hf H : Hp} {s : Sto} {Q : VK} {E : XK} {d : D} {v : V} (R : Rel K m Hf s H) (r : Rep K m Hf d v) (h : Post K m Hf (Rep K) Q E (frz1 d s)) : orLock Q v H := by
  cases d with
  | cell l k =>
    unfold frz1 at h
    dsimp only at h
    cases e : s.get l k with
    | none => rw [e] at h; exact h.elim
    | some c =>
      rw [e] at h
      cases c with
      | live t ds =>
        obtain ⟨a, vs, rfl, q1, q2, q3, q4⟩ := R.live r e
        cases t with
        | lst =>
          obtain ⟨eh, R'⟩ := R.freeze (o := .lst vs) e q1
          rw [upd_self q2] at R'
          exact .inl (h m _ H _ (MExt.refl _) eh R' (by unfold Rep; exact ⟨a, vs, rfl, upd_same, q3.mono (MExt.refl _) eh⟩))
        | sq => exact q2.elim
        | tup => exact q2.elim
        | dK ks =>
          obtain ⟨w1, w2⟩ := q2
          refine .inr ⟨a, _, rfl, w2, trivial, fun od => ?_⟩
          obtain ⟨eh, R'⟩ := R.freeze (o := .frz od (.dK (ks.zip vs))) e q1
          exact h m _ _ _ (MExt.refl _) eh R' (by unfold Rep; exact ⟨a, vs, rfl, ⟨w1, od, upd_same⟩, q3.mono (MExt.refl _) eh⟩)
        | dT ks =>
          obtain ⟨w1, w2⟩ := q2
          refine .inr ⟨a, _, rfl, w2, trivial, fun od => ?_⟩
          obtain ⟨eh, R'⟩ := R.freeze (o := .frz od (.dT (ks.zip vs))) e q1
          exact h m _ _ _ (MExt.refl _) eh R' (by unfold Rep; exact ⟨a, vs, rfl, ⟨w1, od, upd_same⟩, q3.mono (MExt.refl _) eh⟩)
        | ins c fs =>
          obtain ⟨w1, dx, w2⟩ := q2
          obtain ⟨eh, R'⟩ := R.freeze (o := .ins (He.ga K c) dx (fs.zip vs)) e q1
          rw [upd_self w2] at R'
          exact .inl (h m _ H _ (MExt.refl _) eh R' (by unfold Rep; exact ⟨a, vs, rfl, ⟨w1, dx, upd_same⟩, q3.mono (MExt.refl _) eh⟩))
      | lock t ds => exact h.elim
      | dead => exact h.elim
  | _ => exact .inl (h.ok R r)
theorem je_frz {X : Cx} {e : Expr} {f : ME} (ha : JE X e f) : JE X e (mFrz f) := ⟨fun W tk m Hf ρ σ s H Q he R h =>
  we_lock (ha.run W tk m Hf ρ σ s H (orLock Q) he R (Post.bind h fun d s1 m1 Hf1 H1 v e1 e2 R1 r1 h1 => frz_ok R1 r1 h1))⟩

/-! ### dicts, as lists of pairs -/
section
variable {κ β γ : Type} [DecidableEq κ]
def valG (kvs : List (κ × β)) (k : κ) : Option β := (kvs.find? fun kv => decide (kv.1 = k)).map (·.2)
def putG (kvs : List (κ × β)) (k : κ) (v : β) : List (κ × β) := if (kvs.any fun kv => decide (kv.1 = k)) = true then kvs.map (fun kv => if kv.1 = k then (kv.1, v) else kv) else kvs ++ [(k, v)]
def dropG (kvs : List (κ × β)) (k : κ) : List (κ × β) := kvs.filter fun kv => decide (kv.1 ≠ k)
def mergeG (kvs more : List (κ × β)) : List (κ × β) := more.foldl (fun acc kv => putG acc kv.1 kv.2) kvs
/-- the same keys, the items related -/
abbrev PairedG (r : β → γ → Prop) : List (κ × β) → List (κ × γ) → Prop := Paired fun p q => p.1 = q.1 ∧ r p.2 q.2
theorem PairedG.any {r : β → γ → Prop} {xs : List (κ × β)} {ys : List (κ × γ)} (h : PairedG r xs ys) (k : κ) : (xs.any fun kv => decide (kv.1 = k)) = ys.any fun kv => decide (kv.1 = k) := by
  induction h with
  | nil => rfl
  | cons a _ ih => rw [List.any_cons, List.any_cons, ih, a.1]
theorem PairedG.putIn {r : β → γ → Prop} {xs : List (κ × β)} {ys : List (κ × γ)} (h : PairedG r xs ys) (k : κ) {v : β} {u : γ} (hv : r v u) : PairedG r (xs.map fun kv => if kv.1 = k then (kv.1, v) else kv) (ys.map fun kv => if kv.1 = k then (kv.1, u) else kv) := by
  induction h with
  | nil => exact .nil
  | cons a _ ih =>
    rename_i p q ps qs _
    refine .cons ?_ ih
    by_cases e : p.1 = k
    · have e' : q.1 = k := by rw [← a.1]; exact e
      dsimp only
      rw [if_pos e, if_pos e']
      exact ⟨a.1, hv⟩
    · have e' : ¬ q.1 = k := by rw [← a.1]; exact e
      dsimp only
      rw [if_neg e, if_neg e']
      exact a
theorem PairedG.put {r : β → γ → Prop} {xs : List (κ × β)} {ys : List (κ × γ)} (h : PairedG r xs ys) (k : κ) {v : β} {u : γ} (hv : r v u) : PairedG r (putG xs k v) (putG ys k u) := by
  unfold putG
  rw [h.any k]
  split
  · exact h.putIn k hv
  · exact Paired.snoc h ⟨rfl, hv⟩
theorem PairedG.drop {r : β → γ → Prop} {xs : List (κ × β)} {ys : List (κ × γ)} (h : PairedG r xs ys) (k : κ) : PairedG r (dropG xs k) (dropG ys k) := by
  unfold dropG
  induction h with
  | nil => exact .nil
  | cons a _ ih =>
    rename_i p q ps qs _
    by_cases e : p.1 = k
    · have e' : q.1 = k := by rw [← a.1]; exact e
      rw [List.filter_cons_of_neg (by simpa using e), List.filter_cons_of_neg (by simpa using e')]
      exact ih
    · have e' : ¬ q.1 = k := by rw [← a.1]; exact e
      rw [List.filter_cons_of_pos (by simpa using e), List.filter_cons_of_pos (by simpa using e')]
      exact .cons a ih
theorem PairedG.val {r : β → γ → Prop} {xs : List (κ × β)} {ys : List (κ × γ)} (h : PairedG r xs ys) (k : κ) : (valG xs k = none ∧ valG ys k = none) ∨ ∃ v u, valG xs k = some v ∧ valG ys k = some u ∧ r v u := by
  unfold valG
  induction h with
  | nil => exact .inl ⟨rfl, rfl⟩
  | cons a _ ih =>
    rename_i p q ps qs _
    by_cases e : p.1 = k
    · have e' : q.1 = k := by rw [← a.1]; exact e
      exact .inr ⟨p.2, q.2, by simp [e], by simp [e'], a.2⟩
    · have e' : ¬ q.1 = k := by rw [← a.1]; exact e
      rw [List.find?_cons_of_neg (by simpa using e), List.find?_cons_of_neg (by simpa using e')]
      exact ih
theorem PairedG.merge {r : β → γ → Prop} {more : List (κ × β)} {more' : List (κ × γ)} (h : PairedG r more more') : ∀ {xs : List (κ × β)} {ys : List (κ × γ)}, PairedG r xs ys → PairedG r (mergeG xs more) (mergeG ys more') := by
  induction h with
  | nil => intro xs ys h; exact h
  | cons a _ ih =>
    rename_i p q ps qs _
    intro xs ys h
    refine ih ?_
    have := h.put p.1 a.2
    show PairedG r (putG xs p.1 p.2) (putG ys q.1 q.2)
    rw [← a.1]
    exact this
theorem PairedG.fst {r : β → γ → Prop} {xs : List (κ × β)} {ys : List (κ × γ)} (h : PairedG r xs ys) : xs.map (·.1) = ys.map (·.1) := by
  induction h with
  | nil => rfl
  | cons a _ ih => rw [List.map_cons, List.map_cons, ih, a.1]
theorem PairedG.length {r : β → γ → Prop} {xs : List (κ × β)} {ys : List (κ × γ)} (h : PairedG r xs ys) : xs.length = ys.length := Paired.length h
theorem zip_fs (xs : List (κ × β)) : (xs.map (·.1)).zip (xs.map (·.2)) = xs := by
  induction xs with
  | nil => rfl
  | cons a l ih => rw [List.map_cons, List.map_cons, List.zip_cons_cons, ih]
theorem putK_eq (kvs : List (κ × V)) (k : κ) (v : V) : putK kvs k v = putG kvs k v := rfl
theorem mergeK_eq (kvs more : List (Key × V)) : mergeK kvs more = mergeG kvs more := rfl
theorem valV_eq (kvs : List (κ × V)) (k : κ) : valV kvs k = valG kvs k := rfl
theorem dropK_eq (kvs : List (κ × V)) (k : κ) : dropK kvs k = dropG kvs k := rfl
end
section
variable {K : PySem.W.Frag} {m : CM} {Hf : Hp} {κ : Type} [DecidableEq κ]
theorem RepL.snd {xs : List (κ × D)} {ys : List (κ × V)} (h : PairedG (Rep K m Hf) xs ys) : RepL K m Hf (xs.map (·.2)) (ys.map (·.2)) := by
  induction h with
  | nil => exact RepL.nil
  | cons a _ ih => exact RepL.cons a.2 ih
theorem RepL.zip : ∀ {ks : List κ} {ds : List D} {vs : List V}, RepL K m Hf ds vs → PairedG (Rep K m Hf) (ks.zip ds) (ks.zip vs)
  | [], _, _, _ => by rw [List.zip_nil_left, List.zip_nil_left]; exact .nil
  | _ :: _, [], _, h => by rw [h.nilI]; exact .nil
  | k :: ks, d :: ds, _, h => by
    obtain ⟨v, r, rfl, h1, h2⟩ := h.consI
    exact .cons ⟨rfl, h1⟩ (RepL.zip h2)
end

/-! ### displays -/
def keyD : D → Option Key
  | .int i => some (.inl i)
  | .str x => some (.inr x)
  | _ => none
theorem keyD_ok {K : PySem.W.Frag} {m : CM} {Hf : Hp} {d : D} {v : V} {k : Key} (h : keyD d = some k) (r : Rep K m Hf d v) : v = kV k := by
  cases d <;> first | (unfold keyD at h; cases h; done) | (unfold keyD at h; cases h; unfold Rep at r; exact r)
def keysD : List (D × D) → Option (List (Key × D))
  | [] => some []
  | p :: ps => match keyD p.1, keysD ps with
    | some k, some r => some ((k, p.2) :: r)
    | _, _ => none
def mPairs : List (ME × ME) → Env' → Sto → R (List (D × D))
  | [], _, s => .ok [] s
  | p :: ps, ρ, s => (p.1 ρ s).bind fun k s1 => (p.2 ρ s1).bind fun v s2 => (mPairs ps ρ s2).bind fun r s3 => .ok ((k, v) :: r) s3
/-- a new dict: a cell -/
def newDK (kvs : List (Key × D)) (s : Sto) : R D := .ok (.cell s.out.length s.loc.length) (s.alloc (.live (.dK (kvs.map (·.1))) (kvs.map (·.2))))
def newDT (kvs : List (List Key × D)) (s : Sto) : R D := .ok (.cell s.out.length s.loc.length) (s.alloc (.live (.dT (kvs.map (·.1))) (kvs.map (·.2))))
def mDisp (ps : List (ME × ME)) : ME := fun ρ s => (noEx (mPairs ps ρ s)).bind fun ds s1 => match keysD ds with
  | some kds => if kds.length ≤ 15 then newDK (mergeG [] kds) s1 else .stuck
  | none => .stuck
def mDNewK : ME := fun _ s => newDK [] s
def mDNewT : ME := fun _ s => newDT [] s
inductive JPs (X : Cx) : List (Option Expr) → List Expr → List (ME × ME) → Prop
  | nil : JPs X [] [] []
  | cons {k v : Expr} {ks : List (Option Expr)} {vs : List Expr} {fk fv : ME} {fs : List (ME × ME)} : JE X k fk → JE X v fv → JPs X ks vs fs → JPs X (some k :: ks) (v :: vs) ((fk, fv) :: fs)
abbrev relPs (K : PySem.W.Frag) : CM → Hp → List (D × D) → List (V × V) → Prop := fun m Hf => Paired fun d v => Rep K m Hf d.1 v.1 ∧ Rep K m Hf d.2 v.2
theorem jps_run {X : Cx} {pos : Pos} {keys : List (Option Expr)} {values : List Expr} {fs : List (ME × ME)} (h : JPs X keys values fs) : ∃ trs, PPs X pos keys values trs ∧ ∀ (W : WX), Takes X W → ∀ (m : CM) (Hf : Hp) (ρ : Env') (σ : L2.St) (s : Sto) (H : Hp) (Q : List (V × V) → Hp → Prop), EnvOk X.K m Hf ρ σ → Rel X.K m Hf s H →
    Post X.K m Hf (relPs X.K) Q (EW W σ) (mPairs fs ρ s) → tPairs trs σ H Q := by
  induction h with
  | nil => exact ⟨[], pps_nil, fun W tk m Hf ρ σ s H Q he R h => h.ok R .nil⟩
  | cons jk jv _ ih =>
    obtain ⟨trs, p, run⟩ := ih
    refine ⟨_, pps_cons pe_W pe_W p, fun W tk m Hf ρ σ s H Q he R h => ?_⟩
    refine jk.run W tk m Hf ρ σ s H _ he R (Post.bind h fun d1 s1 m1 Hf1 H1 v1 e1 e2 R1 r1 h1 => ?_)
    refine jv.run W tk m1 Hf1 ρ σ s1 H1 _ (he.mono e1 e2) R1 (Post.bind h1 fun d2 s2 m2 Hf2 H2 v2 e3 e4 R2 r2 h2 => ?_)
    refine run W tk m2 Hf2 ρ σ s2 H2 _ (he.mono (e1.trans e3) (e2.trans e4)) R2 (Post.bind h2 fun ds s3 m3 Hf3 H3 vs e5 e6 R3 r3 h3 => ?_)
    exact h3.ok R3 (.cons ⟨r1.mono (e3.trans e5) (e4.trans e6), r2.mono e5 e6⟩ r3)
theorem keysD_ok {K : PySem.W.Frag} {m : CM} {Hf : Hp} : ∀ {ds : List (D × D)} {vs : List (V × V)} {kds : List (Key × D)}, keysD ds = some kds → relPs K m Hf ds vs → ∃ kvs : List (Key × V), vs = kvs.map (fun kv => (kV kv.1, kv.2)) ∧ PairedG (Rep K m Hf) kds kvs
  | [], _, kds, h, r => by unfold keysD at h; cases h; cases r; exact ⟨[], rfl, .nil⟩
  | d :: ds, _, kds, h, r => by
    cases r with
    | cons r1 r2 =>
      rename_i v vs
      unfold keysD at h
      split at h
      · rename_i k r e1 e2
        cases h
        obtain ⟨kvs, e3, q⟩ := keysD_ok e2 r2
        refine ⟨(k, v.2) :: kvs, ?_, .cons ⟨rfl, r1.2⟩ q⟩
        rw [List.map_cons, ← e3, ← keyD_ok e1 r1.1]
      · cases h
theorem Post.newDK {K : PySem.W.Frag} {m : CM} {Hf H : Hp} {s : Sto} {E : XK} {Q : VK} {kds : List (Key × D)} {kvs : List (Key × V)} (R : Rel K m Hf s H) (r : PairedG (Rep K m Hf) kds kvs) (q : Post K m Hf (Rep K) Q E (newDK kds s)) : ∀ p, H p = none → Q (.ref p) (upd H p (.dK kvs)) := fun p hp => by
  obtain ⟨m', em, hm, R'⟩ := R.alloc (o := .dK kvs) (t := .dK (kds.map (·.1))) (vs := kvs.map (·.2)) hp ⟨by rw [List.length_map, List.length_map]; exact r.length, by rw [r.fst, zip_fs]; exact upd_same⟩ (RepL.snd r)
  exact q m' _ _ _ em (Same.refl _) R' (by unfold Rep; exact ⟨p, hm, rfl⟩)
theorem Post.newDT {K : PySem.W.Frag} {m : CM} {Hf H : Hp} {s : Sto} {E : XK} {Q : VK} {kds : List (List Key × D)} {kvs : List (List Key × V)} (R : Rel K m Hf s H) (r : PairedG (Rep K m Hf) kds kvs) (q : Post K m Hf (Rep K) Q E (newDT kds s)) : ∀ p, H p = none → Q (.ref p) (upd H p (.dT kvs)) := fun p hp => by
  obtain ⟨m', em, hm, R'⟩ := R.alloc (o := .dT kvs) (t := .dT (kds.map (·.1))) (vs := kvs.map (·.2)) hp ⟨by rw [List.length_map, List.length_map]; exact r.length, by rw [r.fst, zip_fs]; exact upd_same⟩ (RepL.snd r)
  exact q m' _ _ _ em (Same.refl _) R' (by unfold Rep; exact ⟨p, hm, rfl⟩)
section
variable {X : Cx} {pos : Pos}
theorem je_dnewK : JE X (.Dict [] [] pos) mDNewK := ⟨fun W tk m Hf ρ σ s H Q he R h => we_of pe_dnewK (Post.newDK (kvs := []) R .nil h)⟩
theorem je_dnewT : JE X (.Dict [] [] pos) mDNewT := ⟨fun W tk m Hf ρ σ s H Q he R h => we_of pe_dnewT (Post.newDT (kvs := []) R .nil h)⟩
theorem je_disp {keys : List (Option Expr)} {values : List Expr} {fs : List (ME × ME)} (hp : JPs X keys values fs) (hall : keys.all (·.isSome) = true := by rfl) (hl : keys.length = values.length := by rfl) (h0 : keys ≠ [] := by exact fun h => nomatch h) (h15 : keys.length ≤ 15 := by decide) : JE X (.Dict keys values pos) (mDisp fs) := by
  obtain ⟨trs, pp, run⟩ := jps_run (pos := pos) hp
  refine ⟨fun W tk m Hf ρ σ s H Q he R h => we_of (pe_disp pp hall hl h0 h15) fun p hp => ?_⟩
  obtain ⟨h1, h2, h3⟩ := R.frees hp
  have R' := R.lockNew (o := .dK []) hp
  refine run (fun _ _ _ _ => False) takes0 ⟨m.at_, upd m.lk p (.dK [])⟩ Hf ρ σ s _ _ he.atEq R' ?_
  unfold mDisp at h
  cases e : mPairs fs ρ s with
  | ex c fs s1 => rw [e] at h; exact h.elim
  | stuck => rw [e] at h; exact h.elim
  | ok ds s1 =>
    rw [e] at h
    simp only [noEx_ok, Bw.R.bind_ok] at h
    intro m1 Hf1 H1 vs e1 e2 R1 r1
    obtain ⟨at1, lk1⟩ := m1
    have elk : lk1 = upd m.lk p (.dK []) := e1.lk
    subst elk
    have hat : ∀ l k, at1 l k ≠ some p := fun l k q => by
      rcases e1.nw l k p q with w | w
      · exact h3 l k p w rfl
      · have w' : upd m.lk p (.dK []) p = none := w
        rw [upd_same] at w'; cases w'
    have hP : H1 p = some (.dK []) := R1.lk p _ upd_same
    have R2 := R1.unlock h2 hat
    have em : MExt m ⟨at1, m.lk⟩ := ⟨e1.at_, rfl, fun l k a q => by
      rcases e1.nw l k a q with w | w
      · exact .inl w
      · refine .inr ?_
        have w' : upd m.lk p (.dK []) a = none := w
        by_cases ha : a = p
        · rw [ha]; exact h2
        · rw [upd_ne ha] at w'; exact w'⟩
    cases e3 : keysD ds with
    | none => rw [e3] at h; exact h.elim
    | some kds =>
      rw [e3] at h
      dsimp only at h
      obtain ⟨kvs, rfl, q⟩ := keysD_ok e3 r1
      by_cases hc : kds.length ≤ 15
      · rw [if_pos hc] at h
        refine ⟨hP, kvs, rfl, by rw [← q.length]; exact hc, ?_⟩
        have q' : PairedG (Rep X.K ⟨at1, m.lk⟩ Hf1) kds kvs := Paired.mapP q fun _ _ z => ⟨z.1, z.2.atEq⟩
        have hh := Post.mono em e2 h
        have := Post.newDK R2 (PairedG.merge q' (xs := []) (ys := []) .nil) hh p gone_same
        rw [mergeK_eq]
        have e4 : upd (gone H1 p) p (.dK (mergeG [] kvs)) = upd H1 p (.dK (mergeG [] kvs)) := by
          funext b
          by_cases hb : b = p
          · subst hb; rw [upd_same, upd_same]
          · rw [upd_ne hb, upd_ne hb, gone_ne hb]
        rw [e4] at this
        exact this
      · rw [if_neg hc] at h; exact h.elim
end
end Bw

namespace Bw
open PySem PySem.Spec PyProof.Rows L2

/-! ### the law's call, where no repr is under way -/
/-- nothing is tracked but the script, if anything -/
theorem spF_script {K : PySem.W.Frag} {H : Hp} {a : Addr} {ns : List Int} {F : Fn} {st : Sto} (hS : SqL K H a (ns.map V.int)) (hF : F [.node .sq (ns.map D.int)] ⟨[], []⟩ = .ok (.bl true) st) : spF K 1 F [.ref a] H (fun v _ => v = .bl true) fun _ _ _ => False := by
  have hr : RepL K ⟨fun _ _ => none, fun _ => none⟩ H (ns.map D.int) (ns.map V.int) := by
    clear hS hF
    induction ns with
    | nil => exact RepL.nil
    | cons n ns ih => exact RepL.cons rep_int ih
  have R : Rel K ⟨fun _ _ => none, fun _ => none⟩ H ⟨[], []⟩ H := by
    refine ⟨Same.refl _, fun _ _ e => (nomatch e), fun _ _ e => (nomatch e), fun l k c e => ?_, fun _ _ _ e => (nomatch e), fun _ _ _ _ _ e => (nomatch e)⟩
    unfold Sto.get at e
    split at e <;> simp at e
  refine ⟨rfl, ⟨fun _ _ => none, fun _ => none⟩, H, ⟨[], []⟩, [.node .sq (ns.map D.int)], R, RepL.cons ?_ RepL.nil, ?_⟩
  · unfold Rep
    exact ⟨a, _, rfl, hS, hr⟩
  · rw [hF]
    intro m' Hf' H' b _ _ _ r
    unfold Rep at r
    exact r
section
variable {P : Program} {w : World} {K : PySem.W.Frag} {mg mb : Str → Option Value} {k : Nat} {fa a : Addr} {fd : FuncData} {x : Str} {F : Fn} {s₁ : Shared} {vs : List Value} {ns : List Int}
theorem law_run (KX : K.In s₁.heap) (hns : s₁.heap.Ns mainGlobals mg) (hb : s₁.heap.Ns builtinsNs mb) (hbb : ∀ x : Str, x ≠ "__name__" → mb x = bootBuiltins x) (hlim : s₁.heap.NoLimit) (hg : s₁.gens = #[])
    (hr : RoomG k callerA) (oF : ∀ base : Heap, K.In base → base.Ns mainGlobals mg → FnG P w K mg base k fa fd [x] F) (hbind : ∀ (s : Shared) (u : Value), BindsTo s fd ⟨[u], []⟩ [(x, u)]) {st : Sto} (hF : F [.node .sq (ns.map D.int)] ⟨[], []⟩ = .ok (.bl true) st)
    (H : Hp) (hO : Only H) (hS : SqL K H a (ns.map V.int)) (hok : HOk P w H s₁.heap) (hA : ∀ b, H b ≠ none → b = a) (hK : H a ≠ none → K.lookup a = none) {its : Array Value} (ha : s₁.heap.get? a = some { cls := .type "list", data := .seq its }) :
    codeAny (model P w) callerA (.call (.ref fa) ⟨[.ref a], []⟩) (fun r s' => r = .ok (.ret (.bool true)) ∧ OldK s₁.heap s'.heap ∧ s'.os = s₁.os ∧ AllBare s'.gens) s₁ := by
  have isA : ∀ {b : Addr} {u : HO}, H b = some u → b = a := fun q => hA _ (by rw [q]; exact fun z => nomatch z)
  have noA : ∀ {b : Addr} {o : Obj} {es : Array DictEntry} {ep : Nat}, s₁.heap.get? b = some o → o.data = .dict es ep → H b = none := fun {b o es ep} e d => by
    cases q : H b with
    | none => rfl
    | some u =>
      have eb := isA q
      subst eb
      rw [ha] at e
      cases e
      exact absurd (show Data.seq its _ = Data.dict es ep from d) (fun z => nomatch z)
  have nsK : ∀ {b : Addr} {m : Str → Option Value}, s₁.heap.Ns b m → (hidT s₁.heap H).Ns b m := fun {b m} ⟨o, es, ep, e, d, r⟩ => ⟨o, es, ep, hidT_get e (noA e d), d, r⟩
  have hKb : K.In (hidT s₁.heap H) := fun b o e => hidT_get (KX b o e) (by
    cases q : H b with
    | none => rfl
    | some u =>
      have eb := isA q
      subst eb
      rw [hK (by rw [q]; exact fun z => nomatch z)] at e
      cases e)
  have hM : Mod K mg (hidT s₁.heap H) := ⟨hKb, nsK hns, ⟨mb, nsK hb, hbb⟩, let ⟨mc, h1, h2⟩ := hlim; ⟨mc, nsK h1, h2⟩⟩
  have e0 : Env0 P w K mg (hidT s₁.heap H) callerA [] s₁ H := ⟨rfl, hM, fun b o e => of_hidT e, Nat.le_of_eq (hidT_size _ _), trivial, fun b hb => absurd (show b ∈ ([] : List Addr) from hb) (by simp), hok, .of_eq hg⟩
  refine codeAny_mono ((oF _ hKb (nsK hns)).run callerA [] s₁ H ⟨[.ref a], []⟩ [.ref a] [.ref a] (fun v _ => v = .bl true) (fun _ _ _ => False) hr e0 (hbind s₁ (.ref a)) (.cons rfl .nil) (spF_script hS hF)) fun r s' h => ?_
  cases r with
  | error e =>
    obtain ⟨_, _, _, _, _, _, _, _, _, _, _, _, hE⟩ := h
    exact hE.elim
  | ok fl =>
    cases fl with
    | next => exact False.elim h
    | brk => exact False.elim h
    | cont => exact False.elim h
    | ret u =>
      obtain ⟨v, H', os, bare, un, hok', r', q⟩ := h
      cases (show v = .bl true from q)
      cases (show u = Value.bool true from r')
      refine ⟨rfl, OldK.of_keep fun b o e => ?_, os, bare⟩
      cases q : H b with
      | none => exact un.keep b o e q (by intro z; exact absurd (show b ∈ ([] : List Addr) from z) (by simp)) (by simp)
      | some u =>
        rcases hO b with z | ⟨ob, xs, z⟩
        · rw [q] at z; cases z
        · have e1 := (hok b _ z).1
          have e2 := (hok' b _ (un.frzs b ob _ z)).1
          rw [e] at e1
          cases e1
          exact e2
theorem law_callG (KX : K.In s₁.heap) (hns : s₁.heap.Ns mainGlobals mg) (hb : s₁.heap.Ns builtinsNs mb) (hbb : ∀ x : Str, x ≠ "__name__" → mb x = bootBuiltins x) (hlim : s₁.heap.NoLimit) (hg : s₁.gens = #[])
    (ha : s₁.heap.get? a = some { cls := .type "list", data := .seq vs.toArray }) (hi : IntsAre vs ns) (hl : ns.length ≤ sizeLine) (hr : RoomG k callerA) (oF : ∀ base : Heap, K.In base → base.Ns mainGlobals mg → FnG P w K mg base k fa fd [x] F) (hbind : ∀ (s : Shared) (u : Value), BindsTo s fd ⟨[u], []⟩ [(x, u)])
    {st : Sto} (hF : F [.node .sq (ns.map D.int)] ⟨[], []⟩ = .ok (.bl true) st) :
    codeAny (model P w) callerA (.call (.ref fa) ⟨[.ref a], []⟩) (fun r s' => r = .ok (.ret (.bool true)) ∧ OldK s₁.heap s'.heap ∧ s'.os = s₁.os ∧ AllBare s'.gens) s₁ := by
  have rv := vals_ints hi
  have lenV := hi.length
  cases hk : K.lookup a with
  | some o =>
    have e := KX a o hk
    rw [ha] at e
    cases e
    exact law_run KX hns hb hbb hlim hg hr oF hbind hF (fun _ => none) (fun _ => .inl rfl) (.inr ⟨_, vs.toArray, _, hk, rfl, rfl, rfl, by rw [List.size_toArray, lenV]; exact hl, by simpa using rv⟩) (fun _ _ z => nomatch z) (fun b z => absurd rfl z) (fun z => absurd rfl z) ha
  | none =>
    have hne : ∀ b, b ≠ a → upd (fun _ => none) a (.frz { cls := .type "list", data := .seq vs.toArray } (.lst (ns.map V.int))) b = none := fun b hb => by rw [upd_ne hb]
    refine law_run KX hns hb hbb hlim hg hr oF hbind hF (upd (fun _ => none) a (.frz { cls := .type "list", data := .seq vs.toArray } (.lst (ns.map V.int)))) (fun b => ?_) (.inl (.inr ⟨_, upd_same⟩)) (fun b u z => ?_) (fun b z => ?_) (fun _ => hk) ha
    · by_cases hb : b = a
      · subst hb; exact .inr ⟨_, _, upd_same⟩
      · exact .inl (hne b hb)
    · by_cases hb : b = a
      · subst hb
        rw [upd_same] at z
        cases z
        exact ⟨ha, by rw [List.length_map]; exact hl, vs, _, rv, ha⟩
      · rw [hne b hb] at z; cases z
    · by_cases hb : b = a
      · exact hb
      · exact absurd (hne b hb) z
end
/-- the head's last goal, from the law's promise -/
theorem walkG {l : PySem.W.OpenLaw} {n k : Nat} {q : Program} {loose : List Str} {XP : (Str → Option Value) → Heap → Prop} {YP : World → Heap → Prop} {d : DefRec} {x : Str}
    (hn : l.most = some n) (hn2 : n ≤ sizeLine) (hdf : d.params.defaults = []) (hr : RoomG k callerA)
    (oF : ∀ (w : World) (mg : Str → Option Value) (fa : Addr) (h : Heap), YP w h → h.Ns mainGlobals mg → mg d.name = some (.ref fa) →
      ∃ (K : PySem.W.Frag) (fd : FuncData) (F : Fn), K.In h ∧ (∀ (s : Shared) (u : Value), BindsTo s fd ⟨[u], []⟩ [(x, u)]) ∧ (∀ ns : List Int, ns.length ≤ n → ∃ st, F [.node .sq (ns.map D.int)] ⟨[], []⟩ = .ok (.bl true) st) ∧
        ∀ base : Heap, K.In base → base.Ns mainGlobals mg → FnG l.prog w K mg base k fa fd [x] F) :
    PySem.W.WalkO q loose XP YP l.row.toRowW d [] (fun f vs => PySem.call f vs) := by
  refine Att.attach_call hn hdf fun w s₀ s₁ mg mb fa o pm cd doc a vs ns G Y ho hd hcd hmg hobj hints hlen hg => ?_
  obtain ⟨K, fd, F, KX, hb, hF, o⟩ := oF w mg fa _ Y G.T.g hmg
  obtain ⟨st, hF⟩ := hF ns hlen
  exact law_callG KX G.T.g G.T.b G.T.builtins G.T.nolimit hg hobj hints (Nat.le_trans hlen hn2) hr o hb hF
end Bw

namespace Bw
open PySem PySem.Spec PyProof.Rows L2

/-! ### whatever can be walked -/
def itemsD (s : Sto) : D → Option (List D)
  | .str x => some (signsD x)
  | .node .tup ds => some ds
  | d => stillL s d
def iAny (f : ME) : MI := fun ρ s => (f ρ s).bind fun d s1 => match itemsD s1 d with
  | some ds => .ok ds s1
  | none => .stuck
theorem ji_any {X : Cx} {tg e : Expr} {f : ME} (he : JE X e f) : JI X tg e (iAny f) := ⟨fun W tk m Hf ρ σ s H Q hen R h => by
  unfold iAny at h
  cases q : f ρ s with
  | stuck => rw [q] at h; exact h.elim
  | ex c fs s1 =>
    rw [q] at h
    exact (ji_list he).run W tk m Hf ρ σ s H Q hen R (by unfold iList'; rw [q]; exact h)
  | ok d s1 =>
    rw [q] at h
    simp only [Bw.R.bind_ok] at h
    unfold itemsD at h
    split at h
    · rename_i ds e1
      split at e1
      · cases e1
        exact (ji_str he).run W tk m Hf ρ σ s H Q hen R (by unfold iStr'; rw [q]; exact h)
      · cases e1
        exact (ji_tup he).run W tk m Hf ρ σ s H Q hen R (by unfold iTup'; rw [q]; exact h)
      · refine (ji_list he).run W tk m Hf ρ σ s H Q hen R ?_
        unfold iList'
        rw [q]
        simp only [Bw.R.bind_ok]
        rw [e1]
        exact h
    · exact h.elim⟩

/-! ### -x -/
def gNeg (x : D) (s : Sto) : R D := match x with
  | .int i => .ok (.int (-i)) s
  | _ => .stuck
theorem op_Neg {X : Cx} : UnR X (unaryOp .USub) (rD1 X.K gNeg) := by
  intro pins st σ H v0 v Q I rv h
  obtain ⟨m, Hf, s, x, E, R, r1, hp⟩ := h
  cases x with
  | int i =>
    unfold Rep at r1
    subst r1
    exact un_neg pins st σ H _ v Q I rv ⟨i, rfl, hp.ok R rep_int⟩
  | _ => exact hp.elim

/-! ### the names of the built-ins -/
theorem bt_len : bootBuiltins "len" = some (.builtin "len") := by kernel_rfl
theorem bt_abs : bootBuiltins "abs" = some (.builtin "abs") := by kernel_rfl
theorem bt_max : bootBuiltins "max" = some (.builtin "max") := by kernel_rfl
theorem bt_min : bootBuiltins "min" = some (.builtin "min") := by kernel_rfl
theorem bt_sum : bootBuiltins "sum" = some (.builtin "sum") := by kernel_rfl
theorem bt_all : bootBuiltins "all" = some (.builtin "all") := by kernel_rfl
theorem bt_any : bootBuiltins "any" = some (.builtin "any") := by kernel_rfl
theorem bt_divmod : bootBuiltins "divmod" = some (.builtin "divmod") := by kernel_rfl
theorem bt_isinstance : bootBuiltins "isinstance" = some (.builtin "isinstance") := by kernel_rfl
theorem bt_repr : bootBuiltins "repr" = some (.builtin "repr") := by kernel_rfl
theorem bt_sorted : bootBuiltins "sorted" = some (.builtin "sorted") := by kernel_rfl
theorem bt_str : bootBuiltins "str" = some (.type "str") := by kernel_rfl
theorem bt_int : bootBuiltins "int" = some (.type "int") := by kernel_rfl
theorem bt_bool : bootBuiltins "bool" = some (.type "bool") := by kernel_rfl
theorem bt_list : bootBuiltins "list" = some (.type "list") := by kernel_rfl
theorem bt_tuple : bootBuiltins "tuple" = some (.type "tuple") := by kernel_rfl
theorem bt_dict : bootBuiltins "dict" = some (.type "dict") := by kernel_rfl
theorem bt_set : bootBuiltins "set" = some (.type "set") := by kernel_rfl
/-- loops pass what is thrown -/
theorem ownsC {P : Program} {w : World} {K : PySem.W.Frag} {mg : Str → Option Value} {base : Heap} {N : List Str} {qual : Str} {scope : Scope} {f : Addr} {cdv : Value} {A : Around} {outer : List Env} {s : Shared} {H : Hp} {E : XK} :
    PassesOwn (model P w) (cxOf (L2.CX P w) P w K mg base N qual scope f cdv A outer s H E).A (cxOf (L2.CX P w) P w K mg base N qual scope f cdv A outer s H E).env (cxOf (L2.CX P w) P w K mg base N qual scope f cdv A outer s H E).xe := passes_of rfl
/-! ### how a call's values are bound -/
/-- where a parameter's value comes from: the i-th written, keyword's, default, keyword-only default -/
inductive Src where
  | u (i : Nat) | w (i : Nat) | d (i : Nat) | k (i : Nat)
def pick {α : Type} (us ws ds ks : List α) : Src → Option α
  | .u i => us[i]?
  | .w i => ws[i]?
  | .d i => ds[i]?
  | .k i => ks[i]?
def place {α : Type} (srcs : List Src) (us ws ds ks : List α) : List α := srcs.filterMap (pick us ws ds ks)
theorem Paired.at_ {α β : Type} {r : α → β → Prop} {xs : List α} {ys : List β} (h : Paired r xs ys) : ∀ i : Nat, (xs[i]? = none ∧ ys[i]? = none) ∨ ∃ a b, xs[i]? = some a ∧ ys[i]? = some b ∧ r a b := by
  induction h with
  | nil => intro i; exact .inl ⟨by simp, by simp⟩
  | cons a _ ih =>
    intro i
    cases i with
    | zero => exact .inr ⟨_, _, by simp, by simp, a⟩
    | succ i => simpa using ih i
theorem place_rel {α β : Type} {r : α → β → Prop} {us ws ds ks : List α} {us' ws' ds' ks' : List β} (h1 : Paired r us us') (h2 : Paired r ws ws') (h3 : Paired r ds ds') (h4 : Paired r ks ks') : ∀ srcs, Paired r (place srcs us ws ds ks) (place srcs us' ws' ds' ks')
  | [] => .nil
  | c :: cs => by
    unfold place
    have ih := place_rel h1 h2 h3 h4 cs
    have key : (pick us ws ds ks c = none ∧ pick us' ws' ds' ks' c = none) ∨ ∃ a b, pick us ws ds ks c = some a ∧ pick us' ws' ds' ks' c = some b ∧ r a b := by
      cases c with
      | u i => exact Paired.at_ h1 i
      | w i => exact Paired.at_ h2 i
      | d i => exact Paired.at_ h3 i
      | k i => exact Paired.at_ h4 i
    rcases key with ⟨e1, e2⟩ | ⟨a, b, e1, e2, e3⟩
    · rw [List.filterMap_cons_none e1, List.filterMap_cons_none e2]; exact ih
    · rw [List.filterMap_cons_some e1, List.filterMap_cons_some e2]; exact .cons e3 ih
section
variable {K : PySem.W.Frag} {x : Str} {params : Arguments} {body : List Stmt} {scope : Scope} {dvs : List V} {kws : List (Str × V)} {ps : List Str} {np : Nat} {ks : List Str} {f : Addr} {fd : FuncData} {dds kds : List D}
theorem bd_of {its mv : List Value} {kvs : List V} {srcs : List Src} (hb : KBn K fd ps np ks (fun us ws => place srcs us ws its mv) (fun vs zs => place srcs vs zs dvs kvs)) (h3 : ∀ m Hf, RepL K m Hf dds dvs) (h4 : ∀ m Hf, RepL K m Hf kds kvs) : BD K fd ps np ks (fun us ws => place srcs us ws dds kds) :=
  bd_k hb fun m Hf ds vs es zs r1 r2 => RepL.paired.mpr (place_rel (RepL.paired.mp r1) (RepL.paired.mp r2) (RepL.paired.mp (h3 m Hf)) (RepL.paired.mp (h4 m Hf)) srcs)
/-- no defaults -/
theorem bd_0 (srcs : List Src) (h : ∀ (kV doc pm : Value) (an : Option Addr) (cdv ct : Value) (us ws : List Value), us.length = np → ws.length = ks.length → bindArgs (PySem.W.fnOf x x params body scope .none kV doc pm an cdv ct) ⟨us, ks.zip ws⟩ = pure (ps.zip (place srcs us ws [] []))) :
    ∀ fd, FunD K x x params body scope [] kws (He.ga K x) fd → BD K fd ps np ks (fun us ws => place srcs us ws [] []) := fun fd F => by
  obtain ⟨oc, od, dV, kV, doc, pm, an, cdv, ct, osl, rfl, lk, hcd, hD, hK⟩ := F.ex
  rcases hD with ⟨_, rfl⟩ | ⟨e, _⟩
  · exact bd_of (its := []) (mv := []) (kvs := []) (dvs := []) ⟨fun s us ws X h1 h2 => BindsTo.of_eq (h kV doc pm an cdv ct us ws h1 h2), fun r1 r2 => place_rel r1 r2 .nil .nil srcs⟩ (fun _ _ => RepL.nil) (fun _ _ => RepL.nil)
  · exact absurd rfl e
/-- defaults, no keyword-only ones -/
theorem bd_1 (srcs : List Src) (hd : dvs ≠ []) (h3 : ∀ m Hf, RepL K m Hf dds dvs)
    (h : ∀ (T : Addr) (kV doc pm : Value) (an : Option Addr) (cdv ct : Value) (us its ws : List Value), us.length = np → its.length = dvs.length → ws.length = ks.length →
      ∃ k, bindArgs (PySem.W.fnOf x x params body scope (.ref T) kV doc pm an cdv ct) ⟨us, ks.zip ws⟩ = seqItems? (.ref T) >>= k ∧ k (some its.toArray) = pure (ps.zip (place srcs us ws its []))) :
    ∀ fd, FunD K x x params body scope dvs kws (He.ga K x) fd → BD K fd ps np ks (fun us ws => place srcs us ws dds []) := fun fd F => by
  obtain ⟨its, hb⟩ := F.kbindsD np ks (fun us its ws => place srcs us ws its []) hd (fun r1 r2 r3 => place_rel r1 r3 r2 .nil srcs) h
  exact bd_of (mv := []) (kvs := []) hb h3 (fun _ _ => RepL.nil)
/-- keyword-only ones, ms of them lack -/
theorem bd_2 (srcs : List Src) (ms : List (Str × V)) (hk : kws ≠ []) (hms : ∀ q ∈ ms, q ∈ kws) (h4 : ∀ m Hf, RepL K m Hf kds (ms.map (·.2)))
    (h : ∀ (D : Addr) (doc pm : Value) (an : Option Addr) (cdv ct : Value) (us mv ws : List Value), us.length = np → mv.length = ms.length → ws.length = ks.length →
      KwChain D ((ms.map (·.1)).zip mv) (bindArgs (PySem.W.fnOf x x params body scope .none (.ref D) doc pm an cdv ct) ⟨us, ks.zip ws⟩) (ps.zip (place srcs us ws [] mv))) :
    ∀ fd, FunD K x x params body scope [] kws (He.ga K x) fd → BD K fd ps np ks (fun us ws => place srcs us ws [] kds) := fun fd F => by
  obtain ⟨mv, hb⟩ := F.kbinds0 np ks ms (fun us mv ws => place srcs us ws [] mv) hk hms (fun r1 r2 r3 => place_rel r1 r3 .nil r2 srcs) h
  exact bd_of (its := []) (dvs := []) hb (fun _ _ => RepL.nil) h4
/-- both -/
theorem bd_3 (srcs : List Src) (ms : List (Str × V)) (hd : dvs ≠ []) (hk : kws ≠ []) (hms : ∀ q ∈ ms, q ∈ kws) (h3 : ∀ m Hf, RepL K m Hf dds dvs) (h4 : ∀ m Hf, RepL K m Hf kds (ms.map (·.2)))
    (h : ∀ (T D : Addr) (doc pm : Value) (an : Option Addr) (cdv ct : Value) (us its mv ws : List Value), us.length = np → its.length = dvs.length → mv.length = ms.length → ws.length = ks.length →
      ∃ k, bindArgs (PySem.W.fnOf x x params body scope (.ref T) (.ref D) doc pm an cdv ct) ⟨us, ks.zip ws⟩ = seqItems? (.ref T) >>= k ∧ KwChain D ((ms.map (·.1)).zip mv) (k (some its.toArray)) (ps.zip (place srcs us ws its mv))) :
    ∀ fd, FunD K x x params body scope dvs kws (He.ga K x) fd → BD K fd ps np ks (fun us ws => place srcs us ws dds kds) := fun fd F => by
  obtain ⟨its, mv, hb⟩ := F.kbinds np ks ms (fun us its mv ws => place srcs us ws its mv) hd hk hms (fun r1 r2 r3 r4 => place_rel r1 r4 r2 r3 srcs) h
  exact bd_of hb h3 h4
end
end Bw

namespace Bw
open PySem PySem.Spec PyProof.Rows L2

/-! ### the mirrors, applied -/
section
variable {ρ : Env'} {s : Sto} {d : D} {f f1 f2 f3 : ME} {g g' : D → D → Sto → R D} {t t1 t2 : MT} {fa fk : MA} {F : Fn} {ms ms' : MS}
@[simp] theorem ap_mVar {i : Nat} : mVar i ρ s = match ρ[i]? with
  | some (some d) => .ok d s
  | _ => .stuck := rfl
@[simp] theorem ap_mC : mC d ρ s = .ok d s := rfl
@[simp] theorem ap_mBin : mBin g f1 f2 ρ s = (f1 ρ s).bind fun x s1 => (f2 ρ s1).bind fun y s2 => g x y s2 := rfl
@[simp] theorem ap_mUn {g : D → Sto → R D} : mUn g f ρ s = (f ρ s).bind fun x s1 => g x s1 := rfl
@[simp] theorem ap_mTest : mTest f ρ s = (f ρ s).bind fun d s1 => match d with
  | .bl b => .ok b s1
  | _ => .stuck := rfl
@[simp] theorem ap_mAnd : mAnd t1 t2 ρ s = (t1 ρ s).bind fun b s1 => if b then t2 ρ s1 else .ok false s1 := rfl
@[simp] theorem ap_mOr : mOr t1 t2 ρ s = (t1 ρ s).bind fun b s1 => if b then .ok true s1 else t2 ρ s1 := rfl
@[simp] theorem ap_mNot : mNot t ρ s = (t ρ s).bind fun b s1 => .ok (!b) s1 := rfl
@[simp] theorem ap_mAndV : mAndV f1 f2 ρ s = (f1 ρ s).bind fun d s1 => match d with
  | .bl true => f2 ρ s1
  | .bl false => .ok (.bl false) s1
  | _ => .stuck := rfl
@[simp] theorem ap_mOrV : mOrV f1 f2 ρ s = (f1 ρ s).bind fun d s1 => match d with
  | .bl true => .ok (.bl true) s1
  | .bl false => f2 ρ s1
  | _ => .stuck := rfl
@[simp] theorem ap_mNotV : mNotV f ρ s = (f ρ s).bind fun d s1 => match d with
  | .bl b => .ok (.bl (!b)) s1
  | _ => .stuck := rfl
@[simp] theorem ap_mIf : mIf t f1 f2 ρ s = (t ρ s).bind fun b s1 => if b then f1 ρ s1 else f2 ρ s1 := rfl
@[simp] theorem ap_mTru : mTru f ρ s = (f ρ s).bind fun d s1 => match truD s1 d with
  | some b => .ok b s1
  | none => .stuck := rfl
@[simp] theorem ap_mChain : mChain g g' f1 f2 f3 ρ s = (f1 ρ s).bind fun x s1 => (f2 ρ s1).bind fun y s2 => (g x y s2).bind fun z s3 => match z with
  | .bl true => (f3 ρ s3).bind fun w s4 => g' y w s4
  | .bl false => .ok (.bl false) s3
  | _ => .stuck := rfl
@[simp] theorem ap_mNil : mNil ρ s = .ok [] s := rfl
@[simp] theorem ap_mCons : mCons f fa ρ s = (f ρ s).bind fun d s1 => (fa ρ s1).bind fun ds s2 => .ok (d :: ds) s2 := rfl
@[simp] theorem ap_mCall {g : List D → Sto → R D} : mCall g fa ρ s = (fa ρ s).bind fun ds s1 => g ds s1 := rfl
@[simp] theorem ap_mMeth {T : String} {g : D → List D → Sto → R D} : mMeth T g f fa ρ s = (f ρ s).bind fun d s1 => if tyD T s1 d then (fa ρ s1).bind fun ds s2 => g d ds s2 else .stuck := rfl
@[simp] theorem ap_mNoPart : mNoPart ρ s = .ok none s := rfl
@[simp] theorem ap_mPart : mPart f ρ s = (f ρ s).bind fun d s1 => match d with
  | .int i => .ok (some i) s1
  | _ => .stuck := rfl
@[simp] theorem ap_mSl {g : D → Option Int → Option Int → Sto → R D} {lo hi : MO} : mSl g f lo hi ρ s = (f ρ s).bind fun d s1 => (lo ρ s1).bind fun l s2 => (hi ρ s2).bind fun h s3 => g d l h s3 := rfl
@[simp] theorem ap_gName {i : Nat} : gName' i d ρ s = .ok (ρ.set i (some d)) s := rfl
@[simp] theorem ap_gsNil : gsNil [] ρ s = .ok ρ s := rfl
@[simp] theorem ap_gsCons {a : MG} {b : MGs} {ds : List D} : gsCons a b (d :: ds) ρ s = (a d ρ s).bind fun ρ1 s1 => b ds ρ1 s1 := rfl
@[simp] theorem ap_gTup {n : Nat} {b : MGs} {ds : List D} : gTup' n b (.node .tup ds) ρ s = if ds.length = n then b ds ρ s else .stuck := rfl
@[simp] theorem ap_gSub {g : D → D → D → Sto → R Unit} : gSub' g f1 f2 d ρ s = noEx ((f1 ρ s).bind fun o s1 => (f2 ρ s1).bind fun i s2 => (g o i d s2).bind fun _ s3 => .ok ρ s3) := rfl
@[simp] theorem ap_mNx : mNx ρ s = .nx ρ s := rfl
@[simp] theorem ap_mSeq : mSeq ms ms' ρ s = match ms ρ s with
  | .nx ρ1 s1 => ms' ρ1 s1
  | r => r := rfl
@[simp] theorem ap_mRet : mRet f ρ s = bindS (f ρ s) ρ fun d s1 => .rt d s1 := rfl
@[simp] theorem ap_mRetN : mRetN ρ s = .rt .non s := rfl
@[simp] theorem ap_mDrop : mDrop f ρ s = bindS (f ρ s) ρ fun _ s1 => .nx ρ s1 := rfl
@[simp] theorem ap_mIfS : mIfS t ms ms' ρ s = bindS (t ρ s) ρ fun b s1 => if b then ms ρ s1 else ms' ρ s1 := rfl
@[simp] theorem ap_mSetN {i : Nat} : mSetN i f ρ s = bindS (f ρ s) ρ fun d s1 => .nx (ρ.set i (some d)) s1 := rfl
@[simp] theorem ap_mAsg {g : MG} : mAsg f g ρ s = bindS (f ρ s) ρ fun d s1 => bindS (noEx (g d ρ s1)) ρ fun ρ1 s2 => .nx ρ1 s2 := rfl
@[simp] theorem ap_mFor {fi : MI} {gt : MG} : mFor fi gt ms ρ s = bindS (fi ρ s) ρ fun ds s1 => forL gt ms ds ρ s1 := rfl
@[simp] theorem ap_iRange1 : iRange1 fa ρ s = (fa ρ s).bind fun ds s1 => match ds with
  | [.int j] => if -(2 ^ 62) ≤ j ∧ j < 2 ^ 62 then .ok (rangeD 0 j.toNat) s1 else .stuck
  | _ => .stuck := rfl
@[simp] theorem ap_iRange2 : iRange2 fa ρ s = (fa ρ s).bind fun ds s1 => match ds with
  | [.int i, .int j] => if (-(2 ^ 62) ≤ i ∧ i < 2 ^ 62) ∧ -(2 ^ 62) ≤ j ∧ j < 2 ^ 62 then .ok (rangeD i (j - i).toNat) s1 else .stuck
  | _ => .stuck := rfl
@[simp] theorem ap_iAny : iAny f ρ s = (f ρ s).bind fun d s1 => match itemsD s1 d with
  | some ds => .ok ds s1
  | none => .stuck := rfl
@[simp] theorem ap_mTup : mTup fa ρ s = (fa ρ s).bind fun ds s1 => if ds.length ≤ 1000000 then .ok (.node .tup ds) s1 else .stuck := rfl
@[simp] theorem ap_mLst : mLst fa ρ s = (fa ρ s).bind fun ds s1 => if ds.length ≤ 1000000 then .ok (.node .lst ds) s1 else .stuck := rfl
@[simp] theorem ap_mLstC : mLstC fa ρ s = (fa ρ s).bind fun ds s1 => if ds.length ≤ 1000000 then .ok (.cell s1.out.length s1.loc.length) (s1.alloc (.live .lst ds)) else .stuck := rfl
@[simp] theorem ap_mLc {fi : MI} {ft : MG} {tt : MT} {vs : List Nat} : mLc fi ft tt f vs ρ s = (mLcI fi ft tt f vs ρ s).bind fun xs s1 => .ok (.node .lst xs) s1 := rfl
@[simp] theorem ap_mLcC {fi : MI} {ft : MG} {tt : MT} {vs : List Nat} : mLcC fi ft tt f vs ρ s = (mLcI fi ft tt f vs ρ s).bind fun xs s1 => .ok (.cell s1.out.length s1.loc.length) (s1.alloc (.live .lst xs)) := rfl
@[simp] theorem ap_mLcI {fi : MI} {ft : MG} {tt : MT} {vs : List Nat} : mLcI fi ft tt f vs ρ s = (fi ρ s).bind fun ds s1 => if ds.length ≤ 1000000 then compL ft tt f (wipeE ρ vs) ds s1 else .stuck := rfl
@[simp] theorem ap_mYes : mYes ρ s = .ok true s := rfl
@[simp] theorem ap_wipe0 : wipeE ρ [] = ρ := rfl
@[simp] theorem ap_wipe {v : Nat} {vs : List Nat} : wipeE ρ (v :: vs) = (wipeE ρ vs).set v none := rfl
@[simp] theorem ap_mCallU {n : Nat} : mCallU n F fa ρ s = (fa ρ s).bind fun ds s1 => if ds.length = n then F ds s1 else .stuck := rfl
@[simp] theorem ap_mCallD {np n : Nat} {g : List D → List D → List D} : mCallD np n g F fa ρ s = (fa ρ s).bind fun ds s1 => if ds.length = np ∧ (g ds []).length = n then F (g ds []) s1 else .stuck := rfl
@[simp] theorem ap_mCallK {np nk n : Nat} {g : List D → List D → List D} : mCallK np nk n g F fa fk ρ s = (fa ρ s).bind fun ds s1 => (fk ρ s1).bind fun ws s2 => if ds.length = np ∧ ws.length = nk ∧ (g ds ws).length = n then F (g ds ws) s2 else .stuck := rfl
@[simp] theorem ap_mFrz : mFrz f ρ s = (f ρ s).bind frz1 := rfl
@[simp] theorem ap_mDisp {ps : List (ME × ME)} : mDisp ps ρ s = (noEx (mPairs ps ρ s)).bind fun ds s1 => match keysD ds with
  | some kds => if kds.length ≤ 15 then newDK (mergeG [] kds) s1 else .stuck
  | none => .stuck := rfl
@[simp] theorem ap_mPairs0 : mPairs [] ρ s = .ok [] s := rfl
@[simp] theorem ap_mPairs {p : ME × ME} {ps : List (ME × ME)} : mPairs (p :: ps) ρ s = (p.1 ρ s).bind fun k s1 => (p.2 ρ s1).bind fun v s2 => (mPairs ps ρ s2).bind fun r s3 => .ok ((k, v) :: r) s3 := rfl
@[simp] theorem ap_mDNewK : mDNewK ρ s = newDK [] s := rfl
@[simp] theorem ap_mDNewT : mDNewT ρ s = newDT [] s := rfl
@[simp] theorem ap_comp0 {ft : MG} {tt : MT} : compL ft tt f ρ [] s = .ok [] s := rfl
theorem ap_comp {ft : MG} {tt : MT} {ds : List D} : compL ft tt f ρ (d :: ds) s = (noEx (ft d ρ s)).bind fun ρ1 s1 => (noEx (tt ρ1 s1)).bind fun b s2 => if b then (noEx (f ρ1 s2)).bind fun x s3 => (compL ft tt f ρ ds s3).bind fun xs s4 => .ok (x :: xs) s4 else compL ft tt f ρ ds s2 := rfl
@[simp] theorem ap_for0 {gt : MG} : forL gt ms [] ρ s = .nx ρ s := rfl
theorem ap_for {gt : MG} {ds : List D} : forL gt ms (d :: ds) ρ s = bindS (noEx (gt d ρ s)) ρ fun ρ1 s1 => match ms ρ1 s1 with
    | .nx ρ2 s2 => forL gt ms ds ρ2 s2
    | .ct ρ2 s2 => forL gt ms ds ρ2 s2
    | .bk ρ2 s2 => .nx ρ2 s2
    | r => r := rfl
end

/-! ### the operators, on what they work -/
section
variable {s : Sto} {i j : Int} {a b : Str} {c : Bool} {ds es : List D}
@[simp] theorem gAdd_i : gAdd c (.int i) (.int j) s = .ok (.int (i + j)) s := rfl
@[simp] theorem gAdd_s : gAdd c (.str a) (.str b) s = if a.length + b.length ≤ 1000000 then .ok (.str (a ++ b)) s else .stuck := rfl
@[simp] theorem gSub_i : gSub (.int i) (.int j) s = .ok (.int (i - j)) s := rfl
@[simp] theorem gMul_i : gMul c (.int i) (.int j) s = if cMul i j then .ok (.int (i * j)) s else .stuck := rfl
@[simp] theorem gDiv_i : gDiv (.int i) (.int j) s = if cDiv i j then .ok (.int (i / j)) s else .stuck := rfl
@[simp] theorem gMod_i : gMod (.int i) (.int j) s = if cMod i j then .ok (.int (i % j)) s else .stuck := rfl
@[simp] theorem gPow_i : gPow (.int i) (.int j) s = if cPow i j then .ok (.int (i ^ j.toNat)) s else .stuck := rfl
@[simp] theorem gNeg_i : gNeg (.int i) s = .ok (.int (-i)) s := rfl
@[simp] theorem gLt_i : gLt (.int i) (.int j) s = .ok (.bl (decide (i < j))) s := rfl
@[simp] theorem gLe_i : gLe (.int i) (.int j) s = .ok (.bl (decide (i ≤ j))) s := rfl
@[simp] theorem gGt_i : gGt (.int i) (.int j) s = .ok (.bl (decide (j < i))) s := rfl
@[simp] theorem gGe_i : gGe (.int i) (.int j) s = .ok (.bl (decide (j ≤ i))) s := rfl
@[simp] theorem gEq_i : gEq (.int i) (.int j) s = .ok (.bl (decide (i = j))) s := rfl
@[simp] theorem gEq_s : gEq (.str a) (.str b) s = .ok (.bl (decide (a = b))) s := rfl
@[simp] theorem gEq_b {x y : Bool} : gEq (.bl x) (.bl y) s = .ok (.bl (decide (x = y))) s := rfl
@[simp] theorem gNe_i : gNe (.int i) (.int j) s = .ok (.bl (!decide (i = j))) s := rfl
@[simp] theorem gNe_s : gNe (.str a) (.str b) s = .ok (.bl (!decide (a = b))) s := rfl
@[simp] theorem gNe_b {x y : Bool} : gNe (.bl x) (.bl y) s = .ok (.bl (!decide (x = y))) s := rfl
@[simp] theorem gLen_s : gLen [.str a] s = if a.length ≤ 1000000 then .ok (.int a.length) s else .stuck := rfl
@[simp] theorem gLen_n : gLen [.node .lst ds] s = .ok (.int ds.length) s := rfl
@[simp] theorem gLen_q : gLen [.node .sq ds] s = .ok (.int ds.length) s := rfl
@[simp] theorem gLen_t : gLen [.node .tup ds] s = .ok (.int ds.length) s := rfl
@[simp] theorem gAbs_i : gAbs [.int i] s = .ok (.int (if i < 0 then -i else i)) s := rfl
@[simp] theorem gMax_i : gMax [.int i, .int j] s = .ok (.int (if j > i then j else i)) s := rfl
@[simp] theorem gMin_i : gMin [.int i, .int j] s = .ok (.int (if j < i then j else i)) s := rfl
@[simp] theorem gAll_n {bs : List Bool} : gAll [.node .lst (bs.map D.bl)] s = .ok (.bl (bs.all id)) s := by
  simp [gAll, seqL, view]
@[simp] theorem gAny_n {bs : List Bool} : gAny [.node .lst (bs.map D.bl)] s = .ok (.bl (bs.any id)) s := by
  simp [gAny, seqL, view]
@[simp] theorem gSum_n {ns : List Int} : gSum [.node .lst (ns.map D.int)] s = .ok (.int ns.sum) s := by
  simp [gSum, seqL, view]
@[simp] theorem gDivmod_i : gDivmod [.int i, .int j] s = if 0 < j ∧ Builtin.divisionGoesByPylong i j = false then .ok (.node .tup [.int (i / j), .int (i % j)]) s else .stuck := rfl
@[simp] theorem gIx_s : gIx (.str a) (.int i) s = if a.length ≤ 1000000 then (match atI a.cps.toList i with
    | some c => .ok (.str ⟨#[c]⟩) s
    | none => .stuck) else .stuck := rfl
@[simp] theorem gIx_n {t : Tag} : gIx (.node t ds) (.int i) s = match seqOf s (.node t ds) with
    | some ds => match atI ds i with
      | some d => .ok d s
      | none => .stuck
    | none => .stuck := rfl
@[simp] theorem gIx_c {l k : Nat} : gIx (.cell l k) (.int i) s = match seqOf s (.cell l k) with
    | some ds => match atI ds i with
      | some d => .ok d s
      | none => .stuck
    | none => .stuck := rfl
@[simp] theorem seqOf_n : seqOf s (.node .lst ds) = some ds := rfl
@[simp] theorem seqOf_q : seqOf s (.node .sq ds) = some ds := rfl
@[simp] theorem seqOf_t : seqOf s (.node .tup ds) = some ds := rfl
theorem seqOf_c {l k : Nat} (h : s.get l k = some (.live .lst ds)) : seqOf s (.cell l k) = some ds := by
  unfold seqOf view
  simp only [h]
@[simp] theorem atI_0 {α : Type} {x : α} {xs : List α} : atI (x :: xs) 0 = some x := by
  unfold atI ixN
  simp
@[simp] theorem atI_1 {α : Type} {x y : α} {xs : List α} : atI (x :: y :: xs) 1 = some y := by
  unfold atI ixN
  rw [if_pos (by omega), if_pos (by simp; omega)]
  rfl
theorem atI_ok {α : Type} {xs : List α} {i : Int} (h0 : 0 ≤ i) (h1 : i < xs.length) : ∃ x, atI xs i = some x ∧ x ∈ xs ∧ xs[i.toNat]? = some x := by
  unfold atI ixN
  rw [if_pos h0, if_pos h1]
  have hl : i.toNat < xs.length := by omega
  exact ⟨xs[i.toNat], by simp [hl], List.getElem_mem hl, by simp [hl]⟩
@[simp] theorem gSetI_c {l k : Nat} {z : D} : gSetI (.cell l k) (.int i) z s = match s.get l k with
    | some (.live .lst ds) => match ixN ds.length i with
      | some j => if z.le l then .ok () (s.set l k (.live .lst (ds.set j z))) else .stuck
      | none => .stuck
    | _ => .stuck := rfl
@[simp] theorem le_int {n : Nat} : (D.int i).le n = true := rfl
@[simp] theorem le_bl {n : Nat} {b : Bool} : (D.bl b).le n = true := rfl
@[simp] theorem le_str {n : Nat} : (D.str a).le n = true := rfl
@[simp] theorem le_non {n : Nat} : D.non.le n = true := rfl
@[simp] theorem le_node {n : Nat} {t : Tag} : (D.node t ds).le n = D.leL n ds := rfl
@[simp] theorem leL_nil {n : Nat} : D.leL n [] = true := rfl
@[simp] theorem leL_cons {n : Nat} {d : D} : D.leL n (d :: ds) = (d.le n && D.leL n ds) := rfl
@[simp] theorem le_cell {n l k : Nat} : (D.cell l k).le n = decide (l ≤ n) := rfl
@[simp] theorem truD_bl {b : Bool} : truD s (.bl b) = some b := rfl
@[simp] theorem gIsi_1 {d : D} {n : String} : gIsi [d, .ty n] s = match tyOfD s d with
    | some a => match isiB a n with
      | some b => .ok (.bl b) s
      | none => .stuck
    | none => .stuck := rfl
@[simp] theorem ty_str : tyOfD s (.str a) = some "str" := rfl
@[simp] theorem ty_bl {b : Bool} : tyOfD s (.bl b) = some "bool" := rfl
@[simp] theorem ty_int : tyOfD s (.int i) = some "int" := rfl
@[simp] theorem ty_non : tyOfD s .non = some "NoneType" := rfl
@[simp] theorem ty_lst : tyOfD s (.node .lst ds) = some "list" := rfl
@[simp] theorem ty_tup : tyOfD s (.node .tup ds) = some "tuple" := rfl
@[simp] theorem ty_dK {ks : List Key} : tyOfD s (.node (.dK ks) ds) = some "dict" := rfl
@[simp] theorem gIsN_e {d : D} : gIsN d .non s = .ok (.bl (isN d)) s := rfl
@[simp] theorem gIsNotN_e {d : D} : gIsNotN d .non s = .ok (.bl (!isN d)) s := rfl
@[simp] theorem gSl_s {lo hi : Option Int} : gSl c (.str a) lo hi s = if a.length ≤ 1000000 then .ok (.str (cutS a lo hi)) s else .stuck := rfl
@[simp] theorem frz1_n {t : Tag} : frz1 (.node t ds) s = .ok (.node t ds) s := rfl
theorem frz1_new {t : Tag} : frz1 (.cell s.out.length s.loc.length) (s.alloc (.live t ds)) = .ok (.node t ds) ((s.alloc (.live t ds)).set s.out.length s.loc.length .dead) := by
  unfold frz1
  have h : (s.alloc (.live t ds)).get s.out.length s.loc.length = some (.live t ds) := by rw [Sto.get_alloc, if_pos ⟨rfl, rfl⟩]
  simp only [h]
@[simp] theorem pyD_n0 {n : Nat} : pyD s (n + 1) .non = some .none := rfl
@[simp] theorem pyD_n1 {n : Nat} {b : Bool} : pyD s (n + 1) (.bl b) = some (.bool b) := rfl
@[simp] theorem pyD_n2 {n : Nat} : pyD s (n + 1) (.int i) = some (.int i) := rfl
@[simp] theorem pyD_n3 {n : Nat} : pyD s (n + 1) (.str a) = some (.str a) := rfl
end
/-! ### lists of texts, of ints: == -/
section
variable {s : Sto}
theorem pyL_strs (n : Nat) : ∀ zs : List Str, pyL (pyD s n) (zs.map D.str) = some (zs.map PyData.str)
  | [] => rfl
  | z :: zs => by
    have ih := pyL_strs n zs
    have h : pyD s n (D.str z) = some (.str z) := by cases n <;> rfl
    rw [List.map_cons]
    unfold pyL
    rw [h, ih]
    rfl
theorem pyL_ints (n : Nat) : ∀ zs : List Int, pyL (pyD s n) (zs.map D.int) = some (zs.map PyData.int)
  | [] => rfl
  | z :: zs => by
    have ih := pyL_ints n zs
    have h : pyD s n (D.int z) = some (.int z) := by cases n <;> rfl
    rw [List.map_cons]
    unfold pyL
    rw [h, ih]
    rfl
theorem depthAll_strs : ∀ zs : List Str, PyData.depthAll (zs.map PyData.str) ≤ 1
  | [] => by simp [PyData.depthAll]
  | z :: zs => by
    have := depthAll_strs zs
    rw [List.map_cons]
    unfold PyData.depthAll
    have h : (PyData.str z).depth ≤ 1 := by unfold PyData.depth; omega
    omega
theorem lay_strs : ∀ {zs : List Str}, (∀ z ∈ zs, PyData.strOk z = true) → PyData.canLayAll0 (zs.map PyData.str) = true
  | [], _ => by simp [PyData.canLayAll0]
  | z :: zs, h => by
    have ih := lay_strs (zs := zs) fun y hy => h y (List.mem_cons_of_mem _ hy)
    rw [List.map_cons]
    unfold PyData.canLayAll0
    rw [ih]
    have h1 := h z (List.mem_cons_self ..)
    unfold PyData.canLay0
    rw [h1]
    rfl
theorem shaped_strs {zs : List Str} (h : ∀ z ∈ zs, PyData.strOk z = true) : SeqAt.shaped (.list (zs.map PyData.str)) = true := by
  unfold SeqAt.shaped
  have h1 := depthAll_strs zs
  have h2 := lay_strs h
  rw [Bool.and_eq_true]
  refine ⟨by unfold PyData.canLay0; exact h2, decide_eq_true ?_⟩
  unfold PyData.depth
  omega
theorem eqvAll_strs : ∀ zs ys : List Str, PyData.eqvAll (zs.map PyData.str) (ys.map PyData.str) = decide (zs = ys)
  | [], [] => by simp [PyData.eqvAll]
  | [], _ :: _ => by simp [PyData.eqvAll]
  | _ :: _, [] => by simp [PyData.eqvAll]
  | z :: zs, y :: ys => by
    have ih := eqvAll_strs zs ys
    rw [List.map_cons, List.map_cons]
    unfold PyData.eqvAll
    rw [ih]
    unfold PyData.eqv
    by_cases h : z = y
    · subst h; simp
    · simp [h]
theorem eqD_strs {zs ys : List Str} (h1 : ∀ z ∈ zs, PyData.strOk z = true) (h2 : ∀ z ∈ ys, PyData.strOk z = true) : eqD s (.node .lst (zs.map D.str)) (.node .lst (ys.map D.str)) = some (decide (zs = ys)) := by
  have p : ∀ xs : List Str, pyD s 8 (.node .lst (xs.map D.str)) = some (.list (xs.map PyData.str)) := fun xs => by
    show (match pyL (pyD s 7) (xs.map D.str) with
      | some ps => pyN .lst ps
      | none => none) = _
    rw [pyL_strs]
    rfl
  unfold eqD
  show (match pyD s 8 (.node .lst (zs.map D.str)), pyD s 8 (.node .lst (ys.map D.str)) with
    | some d, some e => if SeqAt.shaped d = true ∧ SeqAt.shaped e = true then some (PyData.eqv d e) else none
    | _, _ => none) = _
  rw [p, p]
  dsimp only
  rw [if_pos ⟨shaped_strs h1, shaped_strs h2⟩]
  unfold PyData.eqv
  rw [eqvAll_strs]
end
/-! ### repr -/
theorem repr_ok {s : Sto} {d : D} {p : PyData} (h : pyD s 8 d = some p) (h1 : p.showable = true) (h2 : p.leavesShort 2000 = true) (h3 : p.depth ≤ 20) (h4 : p.weight ≤ 7000) : gRepr [d] s = .ok (.str p.shown) s := by
  have := PyData.shown_le 2000 (by decide) p h2
  have h5 : p.shown.length ≤ 16000000 := by omega
  show (match pyD s 8 d with
    | some p => if p.showable = true ∧ p.depth ≤ 20 ∧ p.shown.length ≤ 16000000 then Bw.R.ok (D.str p.shown) s else .stuck
    | none => .stuck) = _
  rw [h]
  dsimp only
  rw [if_pos ⟨h1, h3, h5⟩]
theorem short_int {i : Int} (h : i.natAbs.log2 < 1920) : PyData.leavesShort 2000 (.int i) = true := by
  unfold PyData.leavesShort
  refine decide_eq_true ?_
  unfold PyData.shown
  have := int_text_length_le (k := 1920) (by decide) h
  show (Str.ofString (toString i)).length ≤ 2000
  rw [PySem.ofString_length]
  omega
end Bw

namespace Bw
open PySem PySem.Spec PyProof.Rows L2
abbrev top (i : Nat) : Stmt := PySem.Challenge.pw_backwater_k11_names.main.body.getD i (.Pass ⟨0, 0, 0, 0⟩)
abbrev s_is_name : Stmt := top 3
def dbk_is_name_0_thing (us ws : List D) : List D := place [.w 0] us ws [] []
def b_is_name : MS := (mSeq (mIfS (mOr (mNot (mTru (mCall gIsi (mCons (mVar 0) (mCons (mC (.ty "str")) mNil))))) (mNot (mTest (mChain gLe gLe (mC (.int 1)) (mCall gLen (mCons (mVar 0) mNil)) (mC (.int 8)))))) (mRet (mC (.bl false))) mNx)
  (mRet (mCall gAll (mCons (mLc (iAny (mVar 0)) (gName' 1) mYes (mBin gIn (mVar 1) (mC (.str "abcdefghijklmnopqrstuvwxyz"))) [1]) mNil))))
def F_is_name : Fn := mkFn 2 b_is_name
abbrev G_is_name : Fn := F_is_name
abbrev s_law_pot : Stmt := top 5
def b_law_pot : MS := (mSeq (mSetN 2 (mIf (mTest (mBin gLt (mVar 1) (mCall gLen (mCons (mVar 0) mNil)))) (mBin gIx (mVar 0) (mVar 1)) (mC (.int 0))))
  (mRet (mLstC (mCons (mCall gMax (mCons (mC (.int 0)) (mCons (mBin gSub (mCall gAbs (mCons (mVar 2) mNil)) (mBin gPow (mC (.int 10)) (mC (.int 18)))) mNil))) (mCons (mBin (gAdd false) (mBin (gAdd false) (mBin gMod (mCall gAbs (mCons (mVar 2) mNil)) (mC (.int 2147483587))) (mBin (gMul false) (mC (.int 131)) (mVar 1))) (mC (.int 7))) mNil)))))
def F_law_pot : Fn := mkFn 3 b_law_pot
abbrev G_law_pot : Fn := F_law_pot
abbrev s_law_draw : Stmt := top 6
def b_law_draw : MS := (mSeq (mIfS (mTest (mBin gGt (mBin gIx (mVar 0) (mC (.int 0))) (mC (.int 0)))) (mSeq (mAsg (mCall gDivmod (mCons (mBin gIx (mVar 0) (mC (.int 0))) (mCons (mVar 1) mNil))) (gTup' 2 (gsCons (gSub' gSetI (mVar 0) (mC (.int 0))) (gsCons (gName' 2) gsNil))))
  (mRet (mVar 2))) mNx)
  (mSeq (mAsg (mBin gMod (mBin (gAdd false) (mBin (gMul false) (mBin gIx (mVar 0) (mC (.int 1))) (mC (.int 48271))) (mC (.int 20011))) (mC (.int 2147483647))) (gSub' gSetI (mVar 0) (mC (.int 1))))
  (mRet (mBin gMod (mBin gDiv (mBin gMod (mBin (gMul false) (mBin gIx (mVar 0) (mC (.int 1))) (mBin gIx (mVar 0) (mC (.int 1)))) (mC (.int 2147483629))) (mC (.int 7))) (mVar 1)))))
def F_law_draw : Fn := mkFn 3 b_law_draw
abbrev G_law_draw : Fn := F_law_draw
abbrev s_law_word : Stmt := top 7
def b_law_word : MS := (mRet (mMeth "str" gJoin (mC (.str "")) (mCons (mLc (iRange1 (mCons (mVar 1) mNil)) (gName' 2) mYes (mBin gIx (mC (.str "abcdefghijklmnopqrstuvwxyz")) (mCallU 2 G_law_draw (mCons (mVar 0) (mCons (mC (.int 26)) mNil)))) [2]) mNil)))
def F_law_word : Fn := mkFn 3 b_law_word
abbrev G_law_word : Fn := F_law_word
abbrev s_law_sign : Stmt := top 8
def b_law_sign : MS := (mSeq (mSetN 1 (mC (.str " !#$&'()*+,-./0123456789:;<=>?@ABCDEFGHIJKLMNOPQRSTUVWXYZ[]^_`abcdefghijklmnopqrstuvwxyz{|}~\"\\\n")))
  (mRet (mBin gIx (mVar 1) (mCallU 2 G_law_draw (mCons (mVar 0) (mCons (mCall gLen (mCons (mVar 1) mNil)) mNil))))))
def F_law_sign : Fn := mkFn 2 b_law_sign
abbrev G_law_sign : Fn := F_law_sign
abbrev s_law_spoilt : Stmt := top 9
def b_law_spoilt : MS := (mSeq (mSetN 2 (mCallU 2 G_law_draw (mCons (mVar 0) (mCons (mBin (gAdd false) (mCall gLen (mCons (mVar 1) mNil)) (mC (.int 1))) mNil))))
  (mSeq (mSetN 3 (mCallU 2 G_law_draw (mCons (mVar 0) (mCons (mC (.int 3)) mNil))))
  (mSeq (mIfS (mTest (mBin gEq (mVar 3) (mC (.int 0)))) (mRet (mBin (gAdd false) (mBin (gAdd false) (mSl (gSl false) (mVar 1) mNoPart (mPart (mVar 2))) (mCallU 1 G_law_sign (mCons (mVar 0) mNil))) (mSl (gSl false) (mVar 1) (mPart (mVar 2)) mNoPart))) mNx)
  (mSeq (mIfS (mTest (mBin gEq (mVar 3) (mC (.int 1)))) (mRet (mBin (gAdd false) (mBin (gAdd false) (mSl (gSl false) (mVar 1) mNoPart (mPart (mVar 2))) (mCallU 1 G_law_sign (mCons (mVar 0) mNil))) (mSl (gSl false) (mVar 1) (mPart (mBin (gAdd false) (mVar 2) (mC (.int 1)))) mNoPart))) mNx)
  (mRet (mBin (gAdd false) (mSl (gSl false) (mVar 1) mNoPart (mPart (mVar 2))) (mSl (gSl false) (mVar 1) (mPart (mBin (gAdd false) (mVar 2) (mC (.int 1)))) mNoPart)))))))
def F_law_spoilt : Fn := mkFn 4 b_law_spoilt
abbrev G_law_spoilt : Fn := F_law_spoilt
abbrev s_law_odd : Stmt := top 10
def b_law_odd : MS := (mSeq (mSetN 2 (mLst (mCons (mC .non) (mCons (mC (.bl true)) (mCons (mC (.bl false)) (mCons (mC (.int 0)) (mCons (mC (.int 1)) (mCons (mUn gNeg (mC (.int 1))) (mCons (mBin gPow (mC (.int 10)) (mC (.int 39))) (mCons (mLst mNil) (mCons (mTup mNil) (mCons (mFrz mDNewK) (mCons (mLst (mCons (mVar 1) mNil)) (mCons (mTup (mCons (mVar 1) mNil)) (mCons (mFrz (mDisp [((mVar 1), (mC (.int 1)))])) (mCons (mLst (mCons (mLst (mCons (mVar 1) mNil)) mNil)) (mCons (mTup (mCons (mVar 1) (mCons (mVar 1) mNil))) mNil)))))))))))))))))
  (mRet (mBin gIx (mVar 2) (mCallU 2 G_law_draw (mCons (mVar 0) (mCons (mCall gLen (mCons (mVar 2) mNil)) mNil))))))
def F_law_odd : Fn := mkFn 3 b_law_odd
abbrev G_law_odd : Fn := F_law_odd
abbrev s_law_drawn : Stmt := top 11
def b_law_drawn : MS := (mSeq (mSetN 1 (mCallU 2 G_law_draw (mCons (mVar 0) (mCons (mC (.int 4)) mNil))))
  (mSeq (mSetN 2 (mCallU 2 G_law_word (mCons (mVar 0) (mCons (mBin gIx (mLst (mCons (mBin (gAdd false) (mC (.int 1)) (mCallU 2 G_law_draw (mCons (mVar 0) (mCons (mC (.int 8)) mNil)))) (mCons (mCallU 2 G_law_draw (mCons (mVar 0) (mCons (mC (.int 12)) mNil))) mNil))) (mCallU 2 G_law_draw (mCons (mVar 0) (mCons (mC (.int 2)) mNil)))) mNil))))
  (mSeq (mIfS (mTest (mBin gEq (mVar 1) (mC (.int 0)))) (mRet (mCallU 2 G_law_spoilt (mCons (mVar 0) (mCons (mVar 2) mNil)))) mNx)
  (mSeq (mIfS (mTest (mBin gEq (mVar 1) (mC (.int 1)))) (mRet (mCallU 2 G_law_odd (mCons (mVar 0) (mCons (mVar 2) mNil)))) mNx)
  (mRet (mVar 2))))))
def F_law_drawn : Fn := mkFn 3 b_law_drawn
abbrev G_law_drawn : Fn := F_law_drawn
abbrev s_law_is_name : Stmt := top 12
def b_law_is_name : MS := (mSeq (mIfS (mOr (mNot (mTru (mCall gIsi (mCons (mVar 0) (mCons (mC (.ty "str")) mNil))))) (mNot (mTest (mChain gLe gLe (mC (.int 1)) (mCall gLen (mCons (mVar 0) mNil)) (mC (.int 8)))))) (mRet (mC (.bl false))) mNx)
  (mRet (mBin gEq (mLc (iAny (mVar 0)) (gName' 1) (mTest (mBin gNotIn (mVar 1) (mC (.str "abcdefghijklmnopqrstuvwxyz")))) (mVar 1) [1]) (mLst mNil))))
def F_law_is_name : Fn := mkFn 2 b_law_is_name
abbrev G_law_is_name : Fn := F_law_is_name
abbrev s_law_same : Stmt := top 13
def b_law_same : MS := (mRet (mAndV (mCall gIsi (mCons (mVar 0) (mCons (mC (.ty "bool")) mNil))) (mBin gEq (mVar 0) (mVar 1))))
def F_law_same : Fn := mkFn 2 b_law_same
abbrev G_law_same : Fn := F_law_same
abbrev s_law : Stmt := top 14
def b_law : MS := (mSeq (mFor (iRange1 (mCons (mCall gMax (mCons (mC (.int 4)) (mCons (mCall gMin (mCons (mC (.int 40)) (mCons (mCall gLen (mCons (mVar 0) mNil)) mNil))) mNil))) mNil)) (gName' 1) (mSeq (mSetN 2 (mCallU 1 G_law_drawn (mCons (mCallU 2 G_law_pot (mCons (mVar 0) (mCons (mVar 1) mNil))) mNil)))
  (mSeq (mSetN 3 (mCall gRepr (mCons (mVar 2) mNil)))
  (mSeq (mSetN 4 (mCallU 1 G_law_is_name (mCons (mVar 2) mNil)))
  (mSeq (mIfS (mNot (mTru (mCall gAll (mCons (mLc (iAny (mLst (mCons (mCallU 1 G_is_name (mCons (mVar 2) mNil)) (mCons (mCallK 0 1 1 (dbk_is_name_0_thing) G_is_name mNil (mCons (mVar 2) mNil)) (mCons (mCallU 1 G_is_name (mCons (mVar 2) mNil)) mNil))))) (gName' 5) mYes (mCallU 2 G_law_same (mCons (mVar 5) (mCons (mVar 4) mNil))) [5]) mNil)))) (mRet (mC (.bl false))) mNx)
  (mIfS (mTest (mBin gNe (mCall gRepr (mCons (mVar 2) mNil)) (mVar 3))) (mRet (mC (.bl false))) mNx))))))
  (mRet (mAndV (mCallU 2 G_law_same (mCons (mCallU 1 G_is_name (mCons (mC (.str "a")) mNil)) (mCons (mC (.bl true)) mNil))) (mCallU 2 G_law_same (mCons (mCallU 1 G_is_name (mCons (mC (.str "")) mNil)) (mCons (mC (.bl false)) mNil))))))
def F_law : Fn := mkFn 6 b_law
abbrev G_law : Fn := F_law
theorem G_law_ok : ∀ ds s, G_law ds s = .stuck ∨ F_law ds s = G_law ds s := fun _ _ => .inr rfl

/-! ### pots -/
def PotV (b : Int) : Prop := 0 ≤ b ∧ b < 2 ^ 40
def PotAt (s : Sto) (l k : Nat) : Prop := ∃ a b, s.get l k = some (.live .lst [.int a, .int b]) ∧ PotV b
/-- only the pot is another one -/
def PS (s : Sto) (l k : Nat) (s' : Sto) : Prop := ∃ a b, s' = s.set l k (.live .lst [.int a, .int b]) ∧ PotV b
theorem PotAt.get_ex {s : Sto} {l k : Nat} (h : PotAt s l k) : ∃ c, s.get l k = some c := let ⟨_, _, e, _⟩ := h; ⟨_, e⟩
theorem PS.at_ {s s' : Sto} {l k : Nat} (h : PS s l k s') (p : PotAt s l k) : PotAt s' l k := by
  obtain ⟨a, b, rfl, hb⟩ := h
  obtain ⟨c, hc⟩ := p.get_ex
  exact ⟨a, b, Sto.get_set_same hc, hb⟩
theorem PS.trans {s s1 s2 : Sto} {l k : Nat} (h : PS s l k s1) (h' : PS s1 l k s2) : PS s l k s2 := by
  obtain ⟨a, b, rfl, hb⟩ := h
  obtain ⟨a', b', rfl, hb'⟩ := h'
  exact ⟨a', b', Sto.set_set, hb'⟩
theorem PS.refl {s : Sto} {l k : Nat} (p : PotAt s l k) : PS s l k s := by
  obtain ⟨a, b, e, hb⟩ := p
  exact ⟨a, b, (Sto.set_same e).symm, hb⟩
theorem PotAt.frame {s : Sto} {l k : Nat} (p : PotAt s l k) (cs : List CE) : PotAt (s.frame cs) l k := by
  obtain ⟨a, b, e, hb⟩ := p
  exact ⟨a, b, Sto.frame_get_of e, hb⟩
theorem PS.unframe {s s' : Sto} {l k : Nat} {cs : List CE} (h : PS (s.frame cs) l k s') (p : PotAt s l k) : ∃ s2, s' = s2.frame cs ∧ PS s l k s2 := by
  obtain ⟨a, b, rfl, hb⟩ := h
  obtain ⟨c, hc⟩ := p.get_ex
  exact ⟨_, Sto.frame_set_of hc, a, b, rfl, hb⟩
theorem PS.lvl {s s' : Sto} {l k : Nat} (h : PS s l k s') : s'.out.length = s.out.length := by
  obtain ⟨a, b, rfl, hb⟩ := h
  simp
theorem finish_rt {s : Sto} {n : Nat} {d : D} {cs : List CE} (h : s.out.length = n) (hd : d.le n = true) : finish n (.rt d (s.frame cs)) = .ok d s := by
  unfold finish popR
  simp [h, hd]
theorem noPylong {a n : Int} (h0 : 0 < n) (h1 : n < 2 ^ 30) : Builtin.divisionGoesByPylong a n = false := by
  unfold Builtin.divisionGoesByPylong
  have h2 : n.natAbs < 2 ^ 30 := by omega
  have h3 : n.natAbs ≠ 0 := by omega
  have h4 : n.natAbs.log2 < 30 := (Nat.log2_lt h3).mpr h2
  have h5 : ¬ n = 0 := by omega
  have h6 : n.natAbs.log2 / 30 = 0 := by omega
  simp [h5, h6]
theorem log_lt {a : Int} {k : Nat} (hk : 0 < k) (h0 : 0 ≤ a) (h1 : a < 2 ^ k) : a.natAbs.log2 < k := by
  by_cases h : a.natAbs = 0
  · rw [h]; simpa using hk
  · refine (Nat.log2_lt h).mpr ?_
    have : (a.natAbs : Int) < ((2 ^ k : Nat) : Int) := by push_cast; omega
    exact_mod_cast this
theorem cMul_ok {a b : Int} (h0 : 0 ≤ a) (h1 : a < 2 ^ 100) (h2 : 0 ≤ b) (h3 : b < 2 ^ 100) : cMul a b = true := by
  have := log_lt (k := 100) (by decide) h0 h1
  have := log_lt (k := 100) (by decide) h2 h3
  unfold cMul
  exact decide_eq_true (by omega)
theorem cDiv_ok {a b : Int} (h2 : 0 < b) (h3 : b < 2 ^ 100) : cDiv a b = true := by
  have := log_lt (k := 100) (by decide) (Int.le_of_lt h2) h3
  unfold cDiv
  exact decide_eq_true ⟨h2, by omega⟩
theorem cMod_ok {a b : Int} (h2 : 0 < b) : cMod a b = true := by
  unfold cMod
  exact decide_eq_true h2
theorem draw_ok {s : Sto} {l k : Nat} {n : Int} (p : PotAt s l k) (h0 : 0 < n) (h1 : n < 2 ^ 30) : ∃ r s', F_law_draw [.cell l k, .int n] s = .ok (.int r) s' ∧ 0 ≤ r ∧ r < n ∧ PS s l k s' := by
  obtain ⟨a, b, e, hb0, hb1⟩ := p
  have e1 : (s.frame []).get l k = some (.live .lst [.int a, .int b]) := Sto.frame_get_of e
  have e2 : seqOf (s.frame []) (.cell l k) = some [.int a, .int b] := seqOf_c e1
  have st : ∀ c, (s.frame []).set l k c = (s.set l k c).frame [] := fun c => Sto.frame_set_of e
  have g2 : ∀ c, ((s.set l k c).frame []).get l k = some c := fun c => Sto.frame_get_of (Sto.get_set_same e)
  have q2 : ∀ ds, seqOf ((s.set l k (.live .lst ds)).frame []) (.cell l k) = some ds := fun ds => seqOf_c (g2 _)
  have fin : ∀ (r : Int) (c : CE), finish s.out.length (.rt (.int r) ((s.set l k c).frame [])) = .ok (.int r) (s.set l k c) := fun r c => finish_rt (by simp) rfl
  have hp := noPylong (a := a) h0 h1
  unfold F_law_draw mkFn b_law_draw
  rw [Sto.push_eq]
  by_cases ha : 0 < a
  · refine ⟨a % n, s.set l k (.live .lst [.int (a / n), .int b]), ?_, Int.emod_nonneg _ (by omega), Int.emod_lt_of_pos _ h0, a / n, b, rfl, hb0, hb1⟩
    simp [e2, ha, h0, hp, e1, ixN, st, fin]
  · have c1 : cMul b 48271 = true := cMul_ok hb0 (by omega) (by decide) (by decide)
    have c2 : cMod (b * 48271 + 20011) 2147483647 = true := cMod_ok (by decide)
    obtain ⟨c, hc⟩ : ∃ c, c = (b * 48271 + 20011) % 2147483647 := ⟨_, rfl⟩
    have hc0 : 0 ≤ c := by rw [hc]; exact Int.emod_nonneg _ (by decide)
    have hc1 : c < 2147483647 := by rw [hc]; exact Int.emod_lt_of_pos _ (by decide)
    have c3 : cMul c c = true := cMul_ok hc0 (by omega) hc0 (by omega)
    have c4 : ∀ x, cMod x 2147483629 = true := fun x => cMod_ok (by decide)
    have c5 : ∀ x, cDiv x 7 = true := fun x => cDiv_ok (by decide) (by decide)
    have c6 : ∀ x, cMod x n = true := fun x => cMod_ok h0
    refine ⟨c * c % 2147483629 / 7 % n, s.set l k (.live .lst [.int a, .int c]), ?_, Int.emod_nonneg _ (by omega), Int.emod_lt_of_pos _ h0, a, c, rfl, hc0, by omega⟩
    simp [e2, ha, h0, hp, e1, ixN, st, q2, c1, c2, ← hc, c3, c4, c5, c6, fin]
theorem finish_cell {s : Sto} {n : Nat} {t : Tag} {ds : List D} (h : s.out.length = n) (hd : D.leL n ds = true) : finish n (.rt (.cell (n + 1) 0) (s.frame [.live t ds])) = .ok (.cell n s.loc.length) (s.alloc (.live t ds)) := by
  subst h
  have hg : (s.frame [.live t ds]).get (s.out.length + 1) 0 = some (.live t ds) := by rw [Sto.frame_get_own]; rfl
  unfold finish popR
  simp [hg, hd]
theorem pot_ok {s : Sto} {ns : List Int} {k : Int} (h0 : 0 ≤ k) (h1 : k < 64) : ∃ a b, F_law_pot [.node .sq (ns.map D.int), .int k] s = .ok (.cell s.out.length s.loc.length) (s.alloc (.live .lst [.int a, .int b])) ∧ PotV b := by
  have fin : ∀ a b : Int, finish s.out.length (.rt (.cell (s.out.length + 1) 0) (s.frame [.live .lst [.int a, .int b]])) = .ok (.cell s.out.length s.loc.length) (s.alloc (.live .lst [.int a, .int b])) := fun a b => finish_cell rfl rfl
  have c1 : cMul 131 k = true := cMul_ok (by decide) (by decide) h0 (by omega)
  have c2 : ∀ x, cMod x 2147483587 = true := fun x => cMod_ok (by decide)
  have c3 : cPow 10 18 = true := by decide
  unfold F_law_pot mkFn b_law_pot
  rw [Sto.push_eq]
  by_cases hk : k < (ns.length : Int)
  · obtain ⟨d, hd, hm, _⟩ := atI_ok (xs := ns.map D.int) h0 (by simpa using hk)
    obtain ⟨i, _, rfl⟩ := List.mem_map.mp hm
    apply Exists.intro
    apply Exists.intro
    apply And.intro
    · simp [hk, hd, c1, c2, c3]
      exact fin _ _
    · have h1 := Int.emod_nonneg (if i < 0 then -i else i) (b := 2147483587) (by decide)
      have h2 := Int.emod_lt_of_pos (if i < 0 then -i else i) (b := 2147483587) (by decide)
      constructor <;> omega
  · apply Exists.intro
    apply Exists.intro
    apply And.intro
    · simp [hk, c1, c2, c3]
      exact fin _ _
    · constructor <;> omega

/-! ### comprehensions -/
theorem comp_pure {ft : MG} {tt : MT} {f : ME} {ρ : Env'} {s : Sto} (ρ' : D → Env') (p : D → Bool) (e : D → D) : ∀ {ds : List D}, (∀ d ∈ ds, ft d ρ s = .ok (ρ' d) s) → (∀ d ∈ ds, tt (ρ' d) s = .ok (p d) s) → (∀ d ∈ ds, p d = true → f (ρ' d) s = .ok (e d) s) → compL ft tt f ρ ds s = .ok ((ds.filter p).map e) s
  | [], _, _, _ => rfl
  | d :: ds, h1, h2, h3 => by
    have ih := comp_pure ρ' p e (ds := ds) (fun x hx => h1 x (List.mem_cons_of_mem _ hx)) (fun x hx => h2 x (List.mem_cons_of_mem _ hx)) (fun x hx => h3 x (List.mem_cons_of_mem _ hx))
    have a1 := h1 d (List.mem_cons_self ..)
    have a2 := h2 d (List.mem_cons_self ..)
    rw [ap_comp]
    cases hp : p d with
    | true =>
      have a3 := h3 d (List.mem_cons_self ..) hp
      simp [a1, a2, hp, a3, ih]
    | false => simp [a1, a2, hp, ih]
/-- all turns go, with a relation that is kept -/
theorem comp_rel {ft : MG} {tt : MT} {f : ME} {ρ : Env'} (I : Sto → Prop) (Rl : Sto → Sto → Prop) (P : D → Prop) (rf : ∀ s, I s → Rl s s) (tr : ∀ a b c, Rl a b → Rl b c → Rl a c) :
    ∀ {ds : List D}, (∀ d ∈ ds, ∀ s, I s → ∃ ρ', ft d ρ s = .ok ρ' s ∧ tt ρ' s = .ok true s ∧ ∃ x s', f ρ' s = .ok x s' ∧ P x ∧ I s' ∧ Rl s s') → ∀ s, I s → ∃ xs s', compL ft tt f ρ ds s = .ok xs s' ∧ (∀ x ∈ xs, P x) ∧ xs.length = ds.length ∧ I s' ∧ Rl s s'
  | [], _, s, hs => ⟨[], s, rfl, (fun _ h => nomatch h), rfl, hs, rf s hs⟩
  | d :: ds, h, s, hs => by
    obtain ⟨ρ', a1, a2, x, s1, a3, hp, hi, hr⟩ := h d (List.mem_cons_self ..) s hs
    obtain ⟨xs, s2, b1, b2, b3, b4, b5⟩ := comp_rel I Rl P rf tr (ds := ds) (fun y hy => h y (List.mem_cons_of_mem _ hy)) s1 hi
    refine ⟨x :: xs, s2, ?_, ?_, by simp [b3], b4, tr _ _ _ hr b5⟩
    · rw [ap_comp]
      simp [a1, a2, a3, b1]
    · intro y hy
      rcases List.mem_cons.mp hy with rfl | hy
      · exact hp
      · exact b2 y hy

/-! ### names -/
def abc : Str := "abcdefghijklmnopqrstuvwxyz"
def isNm (w : Str) : Bool := decide (1 ≤ (w.length : Int)) && decide ((w.length : Int) ≤ 8) && w.cps.toList.all fun c => decide (c ∈ abc.cps.toList)
@[simp] theorem gIn_sign {c : Nat} {z : Str} {s : Sto} : gIn (.str ⟨#[c]⟩) (.str z) s = .ok (.bl (decide (c ∈ z.cps.toList))) s := rfl
@[simp] theorem gNotIn_sign {c : Nat} {z : Str} {s : Sto} : gNotIn (.str ⟨#[c]⟩) (.str z) s = .ok (.bl (!decide (c ∈ z.cps.toList))) s := rfl
@[simp] theorem items_str {s : Sto} {w : Str} : itemsD s (.str w) = some (signsD w) := rfl
theorem signs_mem {w : Str} {d : D} (h : d ∈ signsD w) : ∃ c, c ∈ w.cps.toList ∧ d = .str ⟨#[c]⟩ := by
  unfold signsD at h
  obtain ⟨c, h1, h2⟩ := List.mem_map.mp h
  exact ⟨c, h1, h2.symm⟩
theorem signs_len (w : Str) : (signsD w).length = w.length := by simp [signsD, Str.length]
theorem fin0 {s : Sto} {d : D} (hd : d.le s.out.length = true) : finish s.out.length (.rt d (s.frame [])) = .ok d s := finish_rt rfl hd
def okS (w : Str) : Prop := w.length ≤ 100 ∧ ∀ c ∈ w.cps.toList, c < 128
theorem nm_str {w : Str} (hw : okS w) (s : Sto) : F_is_name [.str w] s = .ok (.bl (isNm w)) s := by
  have hl : w.length ≤ 1000000 := by have := hw.1; omega
  unfold F_is_name mkFn b_is_name
  rw [Sto.push_eq]
  have hc : compL (gName' 1) mYes (mBin gIn (mVar 1) (mC (.str "abcdefghijklmnopqrstuvwxyz"))) [some (.str w), none] (signsD w) (s.frame []) = .ok ((w.cps.toList.map fun c => decide (c ∈ abc.cps.toList)).map D.bl) (s.frame []) := by
    have := comp_pure (ft := gName' 1) (tt := mYes) (f := mBin gIn (mVar 1) (mC (.str "abcdefghijklmnopqrstuvwxyz"))) (ρ := [some (.str w), none]) (s := s.frame []) (fun d => [some (.str w), some d]) (fun _ => true)
      (fun d => match d with | .str ⟨⟨[c]⟩⟩ => .bl (decide (c ∈ abc.cps.toList)) | _ => .non) (ds := signsD w) (fun d _ => by simp) (fun d _ => by simp) (fun d hd _ => by
        obtain ⟨c, _, rfl⟩ := signs_mem hd
        simp
        rfl)
    rw [this, List.filter_eq_self.mpr (fun _ _ => rfl)]
    congr 1
    unfold signsD
    rw [List.map_map, List.map_map]
    rfl
  have hln : (signsD w).length ≤ 1000000 := by rw [signs_len]; exact hl
  unfold isNm
  by_cases h1 : 1 ≤ (w.length : Int)
  · by_cases h2 : (w.length : Int) ≤ 8
    · simp [hl, h1, h2, isiB, hln, hc, -List.map_map]
      rw [fin0 rfl]
    · simp [hl, h1, h2, isiB]
      exact fin0 rfl
  · simp [hl, h1, isiB]
    exact fin0 rfl
theorem ok_sign {c : Nat} (h : c < 128) : PyData.strOk ⟨#[c]⟩ = true := by
  unfold PyData.strOk
  simp
  omega
theorem gEq_nil {zs : List Str} {s : Sto} (h : ∀ z ∈ zs, PyData.strOk z = true) : gEq (.node .lst (zs.map D.str)) (.node .lst []) s = .ok (.bl (decide (zs = []))) s := by
  unfold gEq
  have := eqD_strs (s := s) (ys := []) h (fun _ h => nomatch h)
  rw [show ([] : List D) = ([] : List Str).map D.str from rfl, this]
theorem filter_nil {α : Type} {p : α → Bool} : ∀ {l : List α}, decide (l.filter (fun x => !p x) = []) = l.all p
  | [] => rfl
  | x :: l => by
    have ih := filter_nil (p := p) (l := l)
    cases h : p x with
    | true => simp [h]; simpa using ih
    | false => simp [h]
theorem lnm_str {w : Str} (hw : okS w) (s : Sto) : F_law_is_name [.str w] s = .ok (.bl (isNm w)) s := by
  have hl : w.length ≤ 1000000 := by have := hw.1; omega
  unfold F_law_is_name mkFn b_law_is_name
  rw [Sto.push_eq]
  have hc : compL (gName' 1) (mTest (mBin gNotIn (mVar 1) (mC (.str "abcdefghijklmnopqrstuvwxyz")))) (mVar 1) [some (.str w), none] (signsD w) (s.frame []) = .ok (((w.cps.toList.filter fun c => !decide (c ∈ abc.cps.toList)).map fun c => (⟨#[c]⟩ : Str)).map D.str) (s.frame []) := by
    have := comp_pure (ft := gName' 1) (tt := mTest (mBin gNotIn (mVar 1) (mC (.str "abcdefghijklmnopqrstuvwxyz")))) (f := mVar 1) (ρ := [some (.str w), none]) (s := s.frame []) (fun d => [some (.str w), some d]) (fun d => match d with | .str ⟨⟨[c]⟩⟩ => !decide (c ∈ abc.cps.toList) | _ => true)
      (fun d => d) (ds := signsD w) (fun d _ => by simp) (fun d hd => by
        obtain ⟨c, _, rfl⟩ := signs_mem hd
        simp
        rfl) (fun d _ _ => by simp)
    rw [this, List.map_id']
    congr 1
    unfold signsD
    rw [List.filter_map, List.map_map]
    rfl
  have hln : (signsD w).length ≤ 1000000 := by rw [signs_len]; exact hl
  have hq := gEq_nil (s := s.frame []) (zs := (w.cps.toList.filter fun c => !decide (c ∈ abc.cps.toList)).map fun c => (⟨#[c]⟩ : Str)) fun z hz => by
    obtain ⟨c, hc, rfl⟩ := List.mem_map.mp hz
    exact ok_sign (hw.2 c (List.mem_filter.mp hc).1)
  have hf : decide (((w.cps.toList.filter fun c => !decide (c ∈ abc.cps.toList)).map fun c => (⟨#[c]⟩ : Str)) = []) = w.cps.toList.all fun c => decide (c ∈ abc.cps.toList) := by
    rw [← filter_nil (p := fun c => decide (c ∈ abc.cps.toList))]
    congr 1
    simp
  rw [hf] at hq
  unfold isNm
  by_cases h1 : 1 ≤ (w.length : Int)
  · by_cases h2 : (w.length : Int) ≤ 8
    · simp [hl, h1, h2, isiB, hln, hc, hq, -List.map_map, -List.map_eq_nil_iff, -List.all_eq_true, -Array.mem_toList_iff]
      rw [fin0 rfl]
    · simp [hl, h1, h2, isiB]
      exact fin0 rfl
  · simp [hl, h1, isiB]
    exact fin0 rfl
theorem same_ok (b : Bool) (s : Sto) : F_law_same [.bl b, .bl b] s = .ok (.bl true) s := by
  unfold F_law_same mkFn b_law_same
  rw [Sto.push_eq]
  simp [isiB]
  exact fin0 rfl
/-- what may be drawn -/
structure Nice (d : D) : Prop where
  le : ∀ n, d.le n = true
  rp : ∃ x, ∀ s, gRepr [d] s = .ok (.str x) s
  nm : ∃ b, ∀ s, F_is_name [d] s = .ok (.bl b) s ∧ F_law_is_name [d] s = .ok (.bl b) s
theorem short_str {w : Str} (hw : okS w) : PyData.leavesShort 2000 (.str w) = true := by
  unfold PyData.leavesShort
  rw [List.all_eq_true]
  intro c hc
  have := hw.2 c hc
  exact decide_eq_true (by omega)
theorem weight_str {w : Str} (hw : okS w) : PyData.weight (.str w) ≤ 100 := by
  unfold PyData.weight
  exact hw.1
theorem nice_str {w : Str} (hw : okS w) : Nice (.str w) where
  le := fun _ => rfl
  rp := ⟨_, fun s => repr_ok (p := .str w) rfl (by unfold PyData.showable; rfl) (short_str hw) (by unfold PyData.depth; omega) (by have := weight_str hw; omega)⟩
  nm := ⟨isNm w, fun s => ⟨nm_str hw s, lnm_str hw s⟩⟩
theorem nice_of {d : D} {a : String} {p : PyData} (hle : ∀ n, d.le n = true) (ht : ∀ s, tyOfD s d = some a) (hi : isiB a "str" = some false) (hp : ∀ s, pyD s 8 d = some p) (h1 : p.showable = true) (h2 : p.leavesShort 2000 = true) (h3 : p.depth ≤ 20) (h4 : p.weight ≤ 7000) : Nice d where
  le := hle
  rp := ⟨_, fun s => repr_ok (hp s) h1 h2 h3 h4⟩
  nm := ⟨false, fun s => by
    constructor
    · unfold F_is_name mkFn b_is_name
      rw [Sto.push_eq]
      simp [ht, hi]
      exact fin0 rfl
    · unfold F_law_is_name mkFn b_law_is_name
      rw [Sto.push_eq]
      simp [ht, hi]
      exact fin0 rfl⟩
section
variable {w : Str} (hw : okS w)
include hw
theorem nice_odd : ∀ d ∈ [D.non, .bl true, .bl false, .int 0, .int 1, .int (-1), .int (10 ^ 39), .node .lst [], .node .tup [], .node (.dK []) [], .node .lst [.str w], .node .tup [.str w], .node (.dK [.inr w]) [.int 1], .node .lst [.node .lst [.str w]], .node .tup [.str w, .str w]], Nice d := by
  have a1 := short_str hw
  have a2 := weight_str hw
  have a3 : PyData.leavesShort 2000 (.int 1) = true := short_int (by decide)
  have a4 : ∀ i : Int, i.natAbs.log2 < 1920 → PyData.leavesShort 2000 (.int i) = true := fun i h => short_int h
  intro d hd
  simp only [List.mem_cons, List.not_mem_nil, or_false] at hd
  rcases hd with rfl | rfl | rfl | rfl | rfl | rfl | rfl | rfl | rfl | rfl | rfl | rfl | rfl | rfl | rfl
  · exact nice_of (a := "NoneType") (p := .none) (fun _ => rfl) (fun _ => rfl) (by decide) (fun _ => rfl) (by simp [PyData.showable]) (by simp [PyData.leavesShort]) (by simp [PyData.depth]) (by simp [PyData.weight])
  · exact nice_of (a := "bool") (p := .bool true) (fun _ => rfl) (fun _ => rfl) (by decide) (fun _ => rfl) (by simp [PyData.showable]) (by simp [PyData.leavesShort]) (by simp [PyData.depth]) (by simp [PyData.weight])
  · exact nice_of (a := "bool") (p := .bool false) (fun _ => rfl) (fun _ => rfl) (by decide) (fun _ => rfl) (by simp [PyData.showable]) (by simp [PyData.leavesShort]) (by simp [PyData.depth]) (by simp [PyData.weight])
  · exact nice_of (a := "int") (p := .int 0) (fun _ => rfl) (fun _ => rfl) (by decide) (fun _ => rfl) (by unfold PyData.showable; decide) (a4 _ (by decide)) (by simp [PyData.depth]) (by unfold PyData.weight; decide)
  · exact nice_of (a := "int") (p := .int 1) (fun _ => rfl) (fun _ => rfl) (by decide) (fun _ => rfl) (by unfold PyData.showable; decide) (a4 _ (by decide)) (by simp [PyData.depth]) (by unfold PyData.weight; decide)
  · exact nice_of (a := "int") (p := .int (-1)) (fun _ => rfl) (fun _ => rfl) (by decide) (fun _ => rfl) (by unfold PyData.showable; decide) (a4 _ (by decide)) (by simp [PyData.depth]) (by unfold PyData.weight; decide)
  · exact nice_of (a := "int") (p := .int (10 ^ 39)) (fun _ => rfl) (fun _ => rfl) (by decide) (fun _ => rfl) (by unfold PyData.showable; decide) (a4 _ (by decide)) (by simp [PyData.depth]) (by unfold PyData.weight; decide)
  · exact nice_of (a := "list") (p := .list []) (fun _ => rfl) (fun _ => rfl) (by decide) (fun _ => rfl) (by simp [PyData.showable, PyData.showableAll]) (by simp [PyData.leavesShort, PyData.leavesShortAll]) (by simp [PyData.depth, PyData.depthAll]) (by simp [PyData.weight, PyData.weightAll])
  · exact nice_of (a := "tuple") (p := .tuple []) (fun _ => rfl) (fun _ => rfl) (by decide) (fun _ => rfl) (by simp [PyData.showable, PyData.showableAll]) (by simp [PyData.leavesShort, PyData.leavesShortAll]) (by simp [PyData.depth, PyData.depthAll]) (by simp [PyData.weight, PyData.weightAll])
  · exact nice_of (a := "dict") (p := .dict []) (fun _ => rfl) (fun _ => rfl) (by decide) (fun _ => rfl) (by simp [PyData.showable, PyData.showableKv]) (by simp [PyData.leavesShort, PyData.leavesShortKv]) (by simp [PyData.depth, PyData.depthKv]) (by simp [PyData.weight, PyData.weightKv])
  · exact nice_of (a := "list") (p := .list [.str w]) (fun _ => by simp) (fun _ => rfl) (by decide) (fun _ => rfl) (by simp [PyData.showable, PyData.showableAll]) (by simp only [PyData.leavesShort, PyData.leavesShortAll] at a1 ⊢; simp only [a1, Bool.and_true]) (by simp [PyData.depth, PyData.depthAll]) (by simp only [PyData.weight, PyData.weightAll] at a2 ⊢; omega)
  · exact nice_of (a := "tuple") (p := .tuple [.str w]) (fun _ => by simp) (fun _ => rfl) (by decide) (fun _ => rfl) (by simp [PyData.showable, PyData.showableAll]) (by simp only [PyData.leavesShort, PyData.leavesShortAll] at a1 ⊢; simp only [a1, Bool.and_true]) (by simp [PyData.depth, PyData.depthAll]) (by simp only [PyData.weight, PyData.weightAll] at a2 ⊢; omega)
  · exact nice_of (a := "dict") (p := .dict [(.str w, .int 1)]) (fun _ => by simp) (fun _ => rfl) (by decide) (fun _ => rfl) (by simp [PyData.showable, PyData.showableKv]; decide) (by rw [PyData.leavesShort, PyData.leavesShortKv, a1, a3, PyData.leavesShortKv]; rfl) (by simp [PyData.depth, PyData.depthKv]) (by
      have : PyData.weight (.int 1) ≤ 10 := by unfold PyData.weight; decide
      rw [PyData.weight, PyData.weightKv, PyData.weightKv]; omega)
  · exact nice_of (a := "list") (p := .list [.list [.str w]]) (fun _ => by simp) (fun _ => rfl) (by decide) (fun _ => rfl) (by simp [PyData.showable, PyData.showableAll]) (by simp only [PyData.leavesShort, PyData.leavesShortAll] at a1 ⊢; simp only [a1, Bool.and_true]) (by simp [PyData.depth, PyData.depthAll]) (by simp only [PyData.weight, PyData.weightAll] at a2 ⊢; omega)
  · exact nice_of (a := "tuple") (p := .tuple [.str w, .str w]) (fun _ => by simp) (fun _ => rfl) (by decide) (fun _ => rfl) (by simp [PyData.showable, PyData.showableAll]) (by simp only [PyData.leavesShort, PyData.leavesShortAll] at a1 ⊢; simp only [a1, Bool.and_true]) (by simp [PyData.depth, PyData.depthAll]) (by simp only [PyData.weight, PyData.weightAll] at a2 ⊢; omega)
end

/-! ### what is drawn -/
theorem PotAt.lvl {s : Sto} {l k : Nat} (p : PotAt s l k) : l ≤ s.out.length := let ⟨_, _, e, _⟩ := p; Sto.get_lvl e
theorem word_ok {s : Sto} {l k : Nat} {n : Int} (p : PotAt s l k) (h0 : 0 ≤ n) (h1 : n ≤ 20) : ∃ w s', F_law_word [.cell l k, .int n] s = .ok (.str w) s' ∧ PS s l k s' ∧ w.length ≤ 20 ∧ ∀ c ∈ w.cps.toList, c < 128 := by
  obtain ⟨xs, s1, c1, c2, c3, c4, c5⟩ := comp_rel (ft := gName' 2) (tt := mYes) (f := mBin gIx (mC (.str "abcdefghijklmnopqrstuvwxyz")) (mCallU 2 G_law_draw (mCons (mVar 0) (mCons (mC (.int 26)) mNil)))) (ρ := [some (.cell l k), some (.int n), none])
    (fun s => PotAt s l k) (fun s s' => PS s l k s') (fun d => ∃ c, c < 128 ∧ d = .str ⟨#[c]⟩) (fun s h => PS.refl h) (fun a b c h h' => h.trans h') (ds := rangeD 0 n.toNat) (fun d hd s hs => by
      obtain ⟨r, s', e, r0, r1, hps⟩ := draw_ok hs (n := 26) (by decide) (by decide)
      obtain ⟨c, hc, hm, _⟩ := atI_ok (xs := abc.cps.toList) r0 (by rw [show (abc.cps.toList.length : Int) = 26 from by decide]; exact r1)
      refine ⟨[some (.cell l k), some (.int n), some d], rfl, rfl, .str ⟨#[c]⟩, s', ?_, ⟨c, ?_, rfl⟩, hps.at_ hs, hps⟩
      · have hl : Str.length "abcdefghijklmnopqrstuvwxyz" ≤ 1000000 := by decide
        simp only [ap_mBin, ap_mC, Bw.R.bind_ok, ap_mCallU, ap_mCons, ap_mVar, ap_mNil]
        simp [e]
        have hc' : atI (Str.cps "abcdefghijklmnopqrstuvwxyz").toList r = some c := hc
        simp [hc', hl]
      · have : ∀ c ∈ abc.cps.toList, c < 128 := by decide
        exact this c hm) (s.frame []) (p.frame [])
  obtain ⟨s2, rfl, hps⟩ := c5.unframe p
  have hxs : ∃ zs : List Nat, xs = (zs.map fun c => (⟨#[c]⟩ : Str)).map D.str ∧ ∀ c ∈ zs, c < 128 := by
    clear c1 c3
    induction xs with
    | nil => exact ⟨[], rfl, (fun _ h => nomatch h)⟩
    | cons x xs ih =>
      obtain ⟨c, hc, rfl⟩ := c2 x (List.mem_cons_self ..)
      obtain ⟨zs, rfl, h⟩ := ih fun y hy => c2 y (List.mem_cons_of_mem _ hy)
      refine ⟨c :: zs, rfl, fun d hd => ?_⟩
      rcases List.mem_cons.mp hd with rfl | hd
      · exact hc
      · exact h d hd
  obtain ⟨zs, rfl, hz⟩ := hxs
  rw [rangeD_length] at c3
  have hzl : zs.length ≤ 20 := by simp at c3; omega
  have hj : (Txt.join (Str.ofString "") (zs.map fun c => (⟨#[c]⟩ : Str))).cps.toList = zs := by
    rw [TL.join_eq]
    have h2 := TL.tl_join (Str.ofString "") (zs.map fun c => (⟨#[c]⟩ : Str))
    have h3 : ∀ ps : List (List Nat), TL.joinL [] ps = ps.flatten := by
      intro ps
      induction ps with
      | nil => rfl
      | cons p ps ih =>
        cases ps with
        | nil => simp [TL.joinL]
        | cons q r => rw [TL.joinL, ih]; simp
    rw [show TL.tl (Str.ofString "") = [] from rfl, h3, List.map_map] at h2
    refine Eq.trans h2 ?_
    clear h2 hz c1 c2 c3 hzl
    induction zs with
    | nil => rfl
    | cons z zs ih => rw [List.map_cons, List.flatten_cons, ih]; rfl
  obtain ⟨w, hw⟩ : ∃ w, w = Txt.join (Str.ofString "") (zs.map fun c => (⟨#[c]⟩ : Str)) := ⟨_, rfl⟩
  rw [← hw] at hj
  refine ⟨w, s2, ?_, hps, ?_, ?_⟩
  · have hb : -(2 ^ 62) ≤ n ∧ n < 2 ^ 62 := by omega
    have hl2 : (rangeD 0 n.toNat).length ≤ 1000000 := by rw [rangeD_length]; omega
    have hsum : ((zs.map fun c => (⟨#[c]⟩ : Str)).map (·.length)).sum + (zs.map fun c => (⟨#[c]⟩ : Str)).length * Str.length (Str.ofString "") ≤ 1000000 := by
      have h1 : Str.length (Str.ofString "") = 0 := rfl
      have h2 : ∀ l : List Nat, ((l.map fun c => (⟨#[c]⟩ : Str)).map (·.length)).sum = l.length := by
        intro l
        induction l with
        | nil => rfl
        | cons x l ih => rw [List.map_cons, List.map_cons, List.sum_cons, ih, List.length_cons]; show 1 + l.length = _; omega
      rw [h1, h2]
      omega
    unfold F_law_word mkFn b_law_word
    rw [Sto.push_eq]
    simp only [ap_mRet, ap_mMeth, ap_mC, Bw.R.bind_ok, ap_mCons, ap_mLc, ap_mLcI, ap_iRange1, ap_mVar, ap_mNil, ap_wipe, ap_wipe0]
    simp only [List.map_cons, List.map_nil, List.length_cons, List.length_nil, List.replicate, List.cons_append, List.nil_append, List.getElem?_cons_succ, List.getElem?_cons_zero, Bw.R.bind_ok, if_pos hb, hl2, if_true, List.set_cons_succ, List.set_cons_zero]
    rw [show tyD "str" (s.frame []) (.str (Str.ofString "")) = true from rfl]
    simp only [if_true]
    rw [c1]
    simp only [Bw.R.bind_ok, bindS_ok]
    unfold gJoin
    simp only [seqOf_n, Option.bind, strsD_map, if_pos hsum, ← hw, bindS_ok]
    exact finish_rt hps.lvl rfl
  · have : w.length = zs.length := by rw [← hj]; simp [Str.length]
    omega
  · rw [hj]; exact hz

def signs0 : Str := " !#$&'()*+,-./0123456789:;<=>?@ABCDEFGHIJKLMNOPQRSTUVWXYZ[]^_`abcdefghijklmnopqrstuvwxyz{|}~\"\\\n"
theorem sign_ok {s : Sto} {l k : Nat} (p : PotAt s l k) : ∃ c s', F_law_sign [.cell l k] s = .ok (.str ⟨#[c]⟩) s' ∧ PS s l k s' ∧ c < 128 := by
  obtain ⟨r, s1, e, r0, r1, hps⟩ := draw_ok (p.frame []) (n := (signs0.length : Int)) (by decide) (by decide)
  obtain ⟨s2, rfl, hps2⟩ := hps.unframe p
  obtain ⟨c, hc, hm, _⟩ := atI_ok (xs := signs0.cps.toList) r0 (by rw [show signs0.cps.toList.length = signs0.length from by simp [Str.length]]; exact r1)
  refine ⟨c, s2, ?_, hps2, ?_⟩
  · have hl : signs0.length ≤ 1000000 := by decide
    unfold F_law_sign mkFn b_law_sign
    rw [Sto.push_eq, show Str.ofString " !#$&'()*+,-./0123456789:;<=>?@ABCDEFGHIJKLMNOPQRSTUVWXYZ[]^_`abcdefghijklmnopqrstuvwxyz{|}~\"\\\n" = signs0 from rfl]
    generalize signs0 = z at *
    simp [hl, e, -Array.length_toList] at *
    simp [hl, e, hc]
    exact finish_rt hps2.lvl rfl
  · have : ∀ c ∈ signs0.cps.toList, c < 128 := by decide
    exact this c hm
theorem cut_len (w : Str) (lo hi : Option Int) : (cutS w lo hi).length ≤ w.length := by
  unfold cutS Str.length
  simp
  omega
theorem cut_mem {w : Str} {lo hi : Option Int} {c : Nat} (h : c ∈ (cutS w lo hi).cps.toList) : c ∈ w.cps.toList := by
  unfold cutS at h
  simp only [List.toList_toArray] at h
  exact List.mem_of_mem_drop (List.mem_of_mem_take h)
theorem app_mem {a b : Str} {c : Nat} (h : c ∈ (a ++ b).cps.toList) : c ∈ a.cps.toList ∨ c ∈ b.cps.toList := by
  have := TL.tl_append a b
  rw [show (a ++ b).cps.toList = TL.tl (a ++ b) from rfl, this] at h
  exact List.mem_append.mp h
theorem spoilt_ok {s : Sto} {l k : Nat} {w : Str} (p : PotAt s l k) (h1 : w.length ≤ 20) (h2 : ∀ c ∈ w.cps.toList, c < 128) : ∃ w' s', F_law_spoilt [.cell l k, .str w] s = .ok (.str w') s' ∧ PS s l k s' ∧ okS w' := by
  have hl : w.length ≤ 1000000 := by omega
  obtain ⟨r, s1, e, r0, r1, hps⟩ := draw_ok (p.frame []) (n := (w.length : Int) + 1) (by omega) (by omega)
  obtain ⟨r', s2, e', r0', r1', hps'⟩ := draw_ok (hps.at_ (p.frame [])) (n := 3) (by decide) (by decide)
  have q1 := hps.trans hps'
  obtain ⟨c, s3, e3, hps3, hc⟩ := sign_ok (q1.at_ (p.frame []))
  have cl := fun lo hi => cut_len w lo hi
  have q2 := q1.trans hps3
  obtain ⟨t2, rfl, u2⟩ := q1.unframe p
  obtain ⟨t3, rfl, u3⟩ := q2.unframe p
  have sl : ∀ c : Nat, Str.length ⟨#[c]⟩ = 1 := fun _ => rfl
  have al : ∀ a b : Str, (a ++ b).length = a.length + b.length := strLen_append
  have i1 : ∀ lo hi lo' hi', (cutS w lo hi).length + 1 ≤ 1000000 ∧ ((cutS w lo hi) ++ ⟨#[c]⟩).length + (cutS w lo' hi').length ≤ 1000000 ∧ (cutS w lo hi).length + (cutS w lo' hi').length ≤ 1000000 := fun lo hi lo' hi' => by
    have := cl lo hi
    have := cl lo' hi'
    rw [al, sl]
    omega
  have i0 : ∀ lo hi, (cutS w lo hi).length ≤ 999999 := fun lo hi => by have := cl lo hi; omega
  have okA : ∀ lo hi lo' hi', okS (cutS w lo hi ++ ⟨#[c]⟩ ++ cutS w lo' hi') := fun lo hi lo' hi' => by
    constructor
    · have := cl lo hi
      have := cl lo' hi'
      rw [al, al, sl]
      omega
    · intro d hd
      rcases app_mem hd with hd | hd
      · rcases app_mem hd with hd | hd
        · exact h2 d (cut_mem hd)
        · simp at hd; omega
      · exact h2 d (cut_mem hd)
  have okB : ∀ lo hi lo' hi', okS (cutS w lo hi ++ cutS w lo' hi') := fun lo hi lo' hi' => by
    constructor
    · have := cl lo hi
      have := cl lo' hi'
      rw [al]
      omega
    · intro d hd
      rcases app_mem hd with hd | hd
      · exact h2 d (cut_mem hd)
      · exact h2 d (cut_mem hd)
  unfold F_law_spoilt mkFn b_law_spoilt
  rw [Sto.push_eq]
  by_cases k0 : r' = 0
  · subst k0
    refine ⟨_, t3, ?_, u3, okA none (some r) (some r) none⟩
    simp [hl, e, e', e3, sl, i0, i1]
    exact finish_rt u3.lvl le_str
  · by_cases k1 : r' = 1
    · subst k1
      refine ⟨_, t3, ?_, u3, okA none (some r) (some (r + 1)) none⟩
      simp [hl, e, e', e3, sl, i0, i1]
      exact finish_rt u3.lvl le_str
    · refine ⟨_, t2, ?_, u2, okB none (some r) (some (r + 1)) none⟩
      simp [hl, e, e', k0, k1, sl, i1]
      exact finish_rt u2.lvl rfl
theorem frame_set2 {s : Sto} {cs : List CE} {c : CE} {k : Nat} : (s.frame cs).set (s.out.length + 1) k c = s.frame (cs.set k c) := Sto.frame_set_own
theorem newDK_frame {s : Sto} {cs : List CE} {kvs : List (Key × D)} : newDK kvs (s.frame cs) = .ok (.cell (s.out.length + 1) cs.length) (s.frame (cs ++ [.live (.dK (kvs.map (·.1))) (kvs.map (·.2))])) := by
  unfold newDK
  simp
theorem frz_frame {s : Sto} {cs : List CE} {t : Tag} {ds : List D} : frz1 (.cell (s.out.length + 1) cs.length) (s.frame (cs ++ [.live t ds])) = .ok (.node t ds) (s.frame (cs ++ [.dead])) := by
  have h : (s.frame (cs ++ [.live t ds])).get (s.out.length + 1) cs.length = some (.live t ds) := by rw [Sto.frame_get_own]; simp
  unfold frz1
  simp only [h]
  rw [Sto.frame_set_own]
  simp
theorem odd_ok {s : Sto} {l k : Nat} {w : Str} (p : PotAt s l k) (h : okS w) : ∃ d s', F_law_odd [.cell l k, .str w] s = .ok d s' ∧ PS s l k s' ∧ Nice d := by
  obtain ⟨r, s1, e, r0, r1, hps⟩ := draw_ok (p.frame [.dead, .dead]) (n := 15) (by decide) (by decide)
  obtain ⟨s2, rfl, hps2⟩ := hps.unframe p
  obtain ⟨os, hos⟩ : ∃ os, os = [D.non, .bl true, .bl false, .int 0, .int 1, .int (-1), .int (10 ^ 39), .node .lst [], .node .tup [], .node (.dK []) [], .node .lst [.str w], .node .tup [.str w], .node (.dK [.inr w]) [.int 1], .node .lst [.node .lst [.str w]], .node .tup [.str w, .str w]] := ⟨_, rfl⟩
  obtain ⟨d, hd, hm, _⟩ := atI_ok (xs := os) r0 (by rw [hos]; exact r1)
  have nd : Nice d := nice_odd h d (by rw [← hos]; exact hm)
  refine ⟨d, s2, ?_, hps2, nd⟩
  have c3 : cPow 10 39 = true := by decide
  have d1 : newDK [] (s.frame []) = .ok (.cell (s.out.length + 1) 0) (s.frame [.live (.dK []) []]) := newDK_frame (cs := [])
  have f1 : frz1 (.cell (s.out.length + 1) 0) (s.frame [.live (.dK []) []]) = .ok (.node (.dK []) []) (s.frame [.dead]) := frz_frame (cs := [])
  have d2 : newDK [(.inr w, .int 1)] (s.frame [.dead]) = .ok (.cell (s.out.length + 1) 1) (s.frame [.dead, .live (.dK [.inr w]) [.int 1]]) := newDK_frame (cs := [.dead])
  have f2 : frz1 (.cell (s.out.length + 1) 1) (s.frame [.dead, .live (.dK [.inr w]) [.int 1]]) = .ok (.node (.dK [.inr w]) [.int 1]) (s.frame [.dead, .dead]) := frz_frame (cs := [.dead])
  have kd : keysD [(D.str w, D.int 1)] = some [(.inr w, .int 1)] := rfl
  have mg : mergeG ([] : List (Key × D)) [(.inr w, .int 1)] = [(.inr w, .int 1)] := rfl
  unfold F_law_odd mkFn b_law_odd
  rw [Sto.push_eq]
  simp [c3, d1, f1, d2, f2, kd, mg]
  simp [e]
  have hd' := hd
  rw [hos, show (10 : Int) ^ 39 = 1000000000000000000000000000000000000000 from by decide] at hd'
  rw [hd']
  exact finish_rt hps2.lvl (nd.le _)
theorem drawn_ok {s : Sto} {l k : Nat} (p : PotAt s l k) : ∃ d s', F_law_drawn [.cell l k] s = .ok d s' ∧ PS s l k s' ∧ Nice d := by
  obtain ⟨way, s1, e1, a0, a1, p1⟩ := draw_ok (p.frame []) (n := 4) (by decide) (by decide)
  have q1 := p1.at_ (p.frame [])
  obtain ⟨x, s2, e2, b0, b1, p2⟩ := draw_ok q1 (n := 8) (by decide) (by decide)
  have q2 := p2.at_ q1
  obtain ⟨y, s3, e3, c0, c1, p3⟩ := draw_ok q2 (n := 12) (by decide) (by decide)
  have q3 := p3.at_ q2
  obtain ⟨z, s4, e4, d0, d1, p4⟩ := draw_ok q3 (n := 2) (by decide) (by decide)
  have q4 := p4.at_ q3
  obtain ⟨m, hm, hmm, _⟩ := atI_ok (xs := [D.int (1 + x), D.int y]) d0 (by simpa using d1)
  obtain ⟨n, rfl, n0, n1⟩ : ∃ n, m = D.int n ∧ 0 ≤ n ∧ n ≤ 20 := by
    simp only [List.mem_cons, List.not_mem_nil, or_false] at hmm
    rcases hmm with rfl | rfl
    · exact ⟨_, rfl, by omega, by omega⟩
    · exact ⟨_, rfl, by omega, by omega⟩
  obtain ⟨w, s5, e5, p5, w1, w2⟩ := word_ok q4 n0 n1
  have q5 := p5.at_ q4
  have pr := (((p1.trans p2).trans p3).trans p4).trans p5
  have okw : okS w := ⟨by omega, w2⟩
  unfold F_law_drawn mkFn b_law_drawn
  rw [Sto.push_eq]
  by_cases k0 : way = 0
  · subst k0
    obtain ⟨w', s6, e6, p6, ok6⟩ := spoilt_ok q5 w1 w2
    obtain ⟨t, rfl, u⟩ := (pr.trans p6).unframe p
    refine ⟨_, t, ?_, u, nice_str ok6⟩
    simp [e1, e2, e3, e4, hm, e5, e6]
    exact finish_rt u.lvl le_str
  · by_cases k1 : way = 1
    · subst k1
      obtain ⟨d, s6, e6, p6, nd⟩ := odd_ok q5 okw
      obtain ⟨t, rfl, u⟩ := (pr.trans p6).unframe p
      refine ⟨_, t, ?_, u, nd⟩
      simp [e1, e2, e3, e4, hm, e5, e6]
      exact finish_rt u.lvl (nd.le _)
    · obtain ⟨t, rfl, u⟩ := pr.unframe p
      refine ⟨_, t, ?_, u, nice_str okw⟩
      simp [e1, e2, e3, e4, hm, e5, k0, k1]
      exact finish_rt u.lvl le_str

/-! ### the law -/
theorem turn_ok {ns : List Int} {s : Sto} {k : Int} {ρ : Env'} (h0 : 0 ≤ k) (h1 : k < 64) (hl : ρ.length = 6) (hr : ρ[0]? = some (some (.node .sq (ns.map D.int)))) :
    ∃ ρ' s', (mSeq (mSetN 2 (mCallU 1 G_law_drawn (mCons (mCallU 2 G_law_pot (mCons (mVar 0) (mCons (mVar 1) mNil))) mNil)))
      (mSeq (mSetN 3 (mCall gRepr (mCons (mVar 2) mNil)))
      (mSeq (mSetN 4 (mCallU 1 G_law_is_name (mCons (mVar 2) mNil)))
      (mSeq (mIfS (mNot (mTru (mCall gAll (mCons (mLc (iAny (mLst (mCons (mCallU 1 G_is_name (mCons (mVar 2) mNil)) (mCons (mCallK 0 1 1 (dbk_is_name_0_thing) G_is_name mNil (mCons (mVar 2) mNil)) (mCons (mCallU 1 G_is_name (mCons (mVar 2) mNil)) mNil))))) (gName' 5) mYes (mCallU 2 G_law_same (mCons (mVar 5) (mCons (mVar 4) mNil))) [5]) mNil)))) (mRet (mC (.bl false))) mNx)
      (mIfS (mTest (mBin gNe (mCall gRepr (mCons (mVar 2) mNil)) (mVar 3))) (mRet (mC (.bl false))) mNx))))) (ρ.set 1 (some (.int k))) s = .nx ρ' s' ∧ ρ'.length = 6 ∧ ρ'[0]? = some (some (.node .sq (ns.map D.int))) ∧ s'.out.length = s.out.length := by
  obtain ⟨r0, r1, r2, r3, r4, r5, rfl⟩ : ∃ r0 r1 r2 r3 r4 r5, ρ = [r0, r1, r2, r3, r4, r5] := by
    match ρ, hl with
    | [r0, r1, r2, r3, r4, r5], _ => exact ⟨_, _, _, _, _, _, rfl⟩
  simp only [List.getElem?_cons_zero, Option.some.injEq] at hr
  subst hr
  obtain ⟨a, b, e1, hb⟩ := pot_ok (s := s) (ns := ns) h0 h1
  have p1 : PotAt (s.alloc (.live .lst [.int a, .int b])) s.out.length s.loc.length := ⟨a, b, by rw [Sto.get_alloc, if_pos ⟨rfl, rfl⟩], hb⟩
  obtain ⟨d, s2, e2, p2, nd⟩ := drawn_ok p1
  obtain ⟨x, hx⟩ := nd.rp
  obtain ⟨c, hc⟩ := nd.nm
  have hk1 := fun s => (hc s).1
  have hk2 := fun s => (hc s).2
  have hd : dbk_is_name_0_thing [] [d] = [d] := rfl
  have ha : gAll [.node .lst [.bl true, .bl true, .bl true]] s2 = .ok (.bl true) s2 := gAll_n (bs := [true, true, true])
  have hi : itemsD s2 (.node .lst [.bl c, .bl c, .bl c]) = some [.bl c, .bl c, .bl c] := rfl
  refine ⟨[some (.node .sq (ns.map D.int)), some (.int k), some d, some (.str x), some (.bl c), r5], s2, ?_, rfl, rfl, p2.lvl⟩
  simp [e1, e2, hx, hk1, hk2, hd, hi, ap_comp, same_ok, ha]
theorem loop_ok {ns : List Int} {body : MS} (hb : ∀ (s : Sto) (k : Int) (ρ : Env'), 0 ≤ k → k < 64 → ρ.length = 6 → ρ[0]? = some (some (.node .sq (ns.map D.int))) → ∃ ρ' s', body (ρ.set 1 (some (.int k))) s = .nx ρ' s' ∧ ρ'.length = 6 ∧ ρ'[0]? = some (some (.node .sq (ns.map D.int))) ∧ s'.out.length = s.out.length) :
    ∀ (n : Nat) (lo : Int) (s : Sto) (ρ : Env'), 0 ≤ lo → lo + n ≤ 64 → ρ.length = 6 → ρ[0]? = some (some (.node .sq (ns.map D.int))) → ∃ ρ' s', forL (gName' 1) body (rangeD lo n) ρ s = .nx ρ' s' ∧ ρ'.length = 6 ∧ ρ'[0]? = some (some (.node .sq (ns.map D.int))) ∧ s'.out.length = s.out.length
  | 0, lo, s, ρ, _, _, h3, h4 => ⟨ρ, s, rfl, h3, h4, rfl⟩
  | n + 1, lo, s, ρ, h1, h2, h3, h4 => by
    obtain ⟨ρ1, s1, e, l1, g1, v1⟩ := hb s lo ρ h1 (by omega) h3 h4
    obtain ⟨ρ2, s2, e2, l2, g2, v2⟩ := loop_ok hb n (lo + 1) s1 ρ1 (by omega) (by omega) l1 g1
    refine ⟨ρ2, s2, ?_, l2, g2, v2.trans v1⟩
    show forL (gName' 1) body (.int lo :: rangeD (lo + 1) n) ρ s = _
    rw [ap_for]
    simp [e, e2]
theorem mseq_run {f g : MS} {ρ ρ1 : Env'} {s s1 : Sto} (h : f ρ s = .nx ρ1 s1) : mSeq f g ρ s = g ρ1 s1 := by
  rw [ap_mSeq, h]
theorem law_true (ns : List Int) (h : ns.length ≤ 63) : ∃ st, G_law [.node .sq (ns.map D.int)] ⟨[], []⟩ = .ok (.bl true) st := by
  have oka : okS "a" := ⟨by decide, by decide⟩
  have okb : okS "" := ⟨by decide, by decide⟩
  have na : isNm "a" = true := by decide
  have nb : isNm "" = false := by decide
  have n1 := fun s => nm_str oka s
  have n2 := fun s => nm_str okb s
  rw [na] at n1
  rw [nb] at n2
  unfold G_law F_law mkFn b_law
  obtain ⟨n, hn, hn1, hn2, hn3⟩ : ∃ n : Nat, (if (if (ns.length : Int) < 40 then (ns.length : Int) else 40) > 4 then (if (ns.length : Int) < 40 then (ns.length : Int) else 40) else 4) = (n : Int) ∧ (n : Int) ≤ 40 ∧ -(2 ^ 62) ≤ (n : Int) ∧ (n : Int) < 2 ^ 62 := by
    refine ⟨(if (if (ns.length : Int) < 40 then (ns.length : Int) else 40) > 4 then (if (ns.length : Int) < 40 then (ns.length : Int) else 40) else 4).toNat, ?_, ?_, ?_, ?_⟩ <;> split <;> split <;> omega
  obtain ⟨ρ', s', e, _, _, hv⟩ := loop_ok (ns := ns) (fun s k ρ h0 h1 hl hr => turn_ok h0 h1 hl hr) n 0 (Sto.push ⟨[], []⟩) [some (.node .sq (ns.map D.int)), none, none, none, none, none] (by omega) (by omega) rfl rfl
  refine ⟨s'.pop, ?_⟩
  have hfor : mFor (iRange1 (mCons (mCall gMax (mCons (mC (.int 4)) (mCons (mCall gMin (mCons (mC (.int 40)) (mCons (mCall gLen (mCons (mVar 0) mNil)) mNil))) mNil))) mNil)) (gName' 1) (mSeq (mSetN 2 (mCallU 1 G_law_drawn (mCons (mCallU 2 G_law_pot (mCons (mVar 0) (mCons (mVar 1) mNil))) mNil)))
      (mSeq (mSetN 3 (mCall gRepr (mCons (mVar 2) mNil)))
      (mSeq (mSetN 4 (mCallU 1 G_law_is_name (mCons (mVar 2) mNil)))
      (mSeq (mIfS (mNot (mTru (mCall gAll (mCons (mLc (iAny (mLst (mCons (mCallU 1 G_is_name (mCons (mVar 2) mNil)) (mCons (mCallK 0 1 1 (dbk_is_name_0_thing) G_is_name mNil (mCons (mVar 2) mNil)) (mCons (mCallU 1 G_is_name (mCons (mVar 2) mNil)) mNil))))) (gName' 5) mYes (mCallU 2 G_law_same (mCons (mVar 5) (mCons (mVar 4) mNil))) [5]) mNil)))) (mRet (mC (.bl false))) mNx)
      (mIfS (mTest (mBin gNe (mCall gRepr (mCons (mVar 2) mNil)) (mVar 3))) (mRet (mC (.bl false))) mNx))))) [some (.node .sq (ns.map D.int)), none, none, none, none, none] (Sto.push ⟨[], []⟩) = .nx ρ' s' := by
    rw [ap_mFor]
    have : iRange1 (mCons (mCall gMax (mCons (mC (.int 4)) (mCons (mCall gMin (mCons (mC (.int 40)) (mCons (mCall gLen (mCons (mVar 0) mNil)) mNil))) mNil))) mNil) [some (.node .sq (ns.map D.int)), none, none, none, none, none] (Sto.push ⟨[], []⟩) = .ok (rangeD 0 n) (Sto.push ⟨[], []⟩) := by
      rw [ap_iRange1]
      simp only [ap_mCons, ap_mCall, ap_mC, ap_mVar, ap_mNil, Bw.R.bind_ok, List.getElem?_cons_zero, gLen_q, gMin_i, gMax_i, List.length_map]
      rw [hn, if_pos ⟨hn2, hn3⟩]
      rfl
    rw [this]
    exact e
  have hrun : finish 0 (mSeq (mFor (iRange1 (mCons (mCall gMax (mCons (mC (.int 4)) (mCons (mCall gMin (mCons (mC (.int 40)) (mCons (mCall gLen (mCons (mVar 0) mNil)) mNil))) mNil))) mNil)) (gName' 1) (mSeq (mSetN 2 (mCallU 1 G_law_drawn (mCons (mCallU 2 G_law_pot (mCons (mVar 0) (mCons (mVar 1) mNil))) mNil)))
      (mSeq (mSetN 3 (mCall gRepr (mCons (mVar 2) mNil)))
      (mSeq (mSetN 4 (mCallU 1 G_law_is_name (mCons (mVar 2) mNil)))
      (mSeq (mIfS (mNot (mTru (mCall gAll (mCons (mLc (iAny (mLst (mCons (mCallU 1 G_is_name (mCons (mVar 2) mNil)) (mCons (mCallK 0 1 1 (dbk_is_name_0_thing) G_is_name mNil (mCons (mVar 2) mNil)) (mCons (mCallU 1 G_is_name (mCons (mVar 2) mNil)) mNil))))) (gName' 5) mYes (mCallU 2 G_law_same (mCons (mVar 5) (mCons (mVar 4) mNil))) [5]) mNil)))) (mRet (mC (.bl false))) mNx)
      (mIfS (mTest (mBin gNe (mCall gRepr (mCons (mVar 2) mNil)) (mVar 3))) (mRet (mC (.bl false))) mNx))))))
      (mRet (mAndV (mCallU 2 G_law_same (mCons (mCallU 1 G_is_name (mCons (mC (.str "a")) mNil)) (mCons (mC (.bl true)) mNil))) (mCallU 2 G_law_same (mCons (mCallU 1 G_is_name (mCons (mC (.str "")) mNil)) (mCons (mC (.bl false)) mNil))))) [some (.node .sq (ns.map D.int)), none, none, none, none, none] (Sto.push ⟨[], []⟩)) = .ok (.bl true) s'.pop := by
    rw [mseq_run hfor]
    simp [n1, n2, same_ok]
    unfold finish popR
    have : s'.out.length = 0 + 1 := hv
    simp [this]
  exact hrun

structure Cfg (K : PySem.W.Frag) (mg : Str → Option Value) : Prop where
  f_is_name : ∃ fd, FunD K "is_name" "is_name" (defArgs s_is_name) (defBody s_is_name) (defScope s_is_name) [] [] (He.ga K "is_name") fd
  g_is_name : mg "is_name" = some (.ref (He.ga K "is_name"))
  f_law_pot : ∃ fd, FunD K "_law_pot" "_law_pot" (defArgs s_law_pot) (defBody s_law_pot) (defScope s_law_pot) [] [] (He.ga K "_law_pot") fd
  g_law_pot : mg "_law_pot" = some (.ref (He.ga K "_law_pot"))
  f_law_draw : ∃ fd, FunD K "_law_draw" "_law_draw" (defArgs s_law_draw) (defBody s_law_draw) (defScope s_law_draw) [] [] (He.ga K "_law_draw") fd
  g_law_draw : mg "_law_draw" = some (.ref (He.ga K "_law_draw"))
  f_law_word : ∃ fd, FunD K "_law_word" "_law_word" (defArgs s_law_word) (defBody s_law_word) (defScope s_law_word) [] [] (He.ga K "_law_word") fd
  g_law_word : mg "_law_word" = some (.ref (He.ga K "_law_word"))
  f_law_sign : ∃ fd, FunD K "_law_sign" "_law_sign" (defArgs s_law_sign) (defBody s_law_sign) (defScope s_law_sign) [] [] (He.ga K "_law_sign") fd
  g_law_sign : mg "_law_sign" = some (.ref (He.ga K "_law_sign"))
  f_law_spoilt : ∃ fd, FunD K "_law_spoilt" "_law_spoilt" (defArgs s_law_spoilt) (defBody s_law_spoilt) (defScope s_law_spoilt) [] [] (He.ga K "_law_spoilt") fd
  g_law_spoilt : mg "_law_spoilt" = some (.ref (He.ga K "_law_spoilt"))
  f_law_odd : ∃ fd, FunD K "_law_odd" "_law_odd" (defArgs s_law_odd) (defBody s_law_odd) (defScope s_law_odd) [] [] (He.ga K "_law_odd") fd
  g_law_odd : mg "_law_odd" = some (.ref (He.ga K "_law_odd"))
  f_law_drawn : ∃ fd, FunD K "_law_drawn" "_law_drawn" (defArgs s_law_drawn) (defBody s_law_drawn) (defScope s_law_drawn) [] [] (He.ga K "_law_drawn") fd
  g_law_drawn : mg "_law_drawn" = some (.ref (He.ga K "_law_drawn"))
  f_law_is_name : ∃ fd, FunD K "_law_is_name" "_law_is_name" (defArgs s_law_is_name) (defBody s_law_is_name) (defScope s_law_is_name) [] [] (He.ga K "_law_is_name") fd
  g_law_is_name : mg "_law_is_name" = some (.ref (He.ga K "_law_is_name"))
  f_law_same : ∃ fd, FunD K "_law_same" "_law_same" (defArgs s_law_same) (defBody s_law_same) (defScope s_law_same) [] [] (He.ga K "_law_same") fd
  g_law_same : mg "_law_same" = some (.ref (He.ga K "_law_same"))
  f_law : ∃ fd, FunD K "law" "law" (defArgs s_law) (defBody s_law) (defScope s_law) [] [] (He.ga K "law") fd
  g_law : mg "law" = some (.ref (He.ga K "law"))
  b_abs : mg "abs" = none
  b_all : mg "all" = none
  b_bool : mg "bool" = none
  b_divmod : mg "divmod" = none
  b_isinstance : mg "isinstance" = none
  b_len : mg "len" = none
  b_max : mg "max" = none
  b_min : mg "min" = none
  b_range : mg "range" = none
  b_repr : mg "repr" = none
  b_str : mg "str" = none
  c_LETTERS : ∃ t, mg "LETTERS" = some (.str "abcdefghijklmnopqrstuvwxyz" t)
  c_LONGEST : ∃ t, mg "LONGEST" = some (.int (8) t)
section
variable {P : Program} {w : World} {K : PySem.W.Frag} {mg : Str → Option Value} {base : Heap} (C : Cfg K mg)
theorem sc_is_name : FnScope ["thing", "sign"] ["thing"] (defScope s_is_name) := ⟨rfl, rfl, rfl, by decide +kernel, rfl, by decide +kernel, by decide +kernel⟩
theorem bd_is_name {K : PySem.W.Frag} : ∀ fd, FunD K "is_name" "is_name" (defArgs s_is_name) (defBody s_is_name) (defScope s_is_name) [] [] (He.ga K "is_name") fd → BD K fd ["thing"] 1 [] (fun ds _ => ds) := bd_n fun _ _ _ _ _ _ us hl => match us, hl with | [_], _ => rfl
theorem bk_is_name_0_thing {K : PySem.W.Frag} : ∀ fd, FunD K "is_name" "is_name" (defArgs s_is_name) (defBody s_is_name) (defScope s_is_name) [] [] (He.ga K "is_name") fd → BD K fd ["thing"] 0 ["thing"] dbk_is_name_0_thing := bd_0 [.w 0] fun _ _ _ _ _ _ us ws h1 h2 => match us, ws, h1, h2 with | [], [_], _, _ => rfl
theorem sc_law_pot : FnScope ["script", "k", "cell"] ["script", "k"] (defScope s_law_pot) := ⟨rfl, rfl, rfl, by decide +kernel, rfl, by decide +kernel, by decide +kernel⟩
theorem bd_law_pot {K : PySem.W.Frag} : ∀ fd, FunD K "_law_pot" "_law_pot" (defArgs s_law_pot) (defBody s_law_pot) (defScope s_law_pot) [] [] (He.ga K "_law_pot") fd → BD K fd ["script", "k"] 2 [] (fun ds _ => ds) := bd_n fun _ _ _ _ _ _ us hl => match us, hl with | [_, _], _ => rfl
theorem sc_law_draw : FnScope ["pot", "many", "digit"] ["pot", "many"] (defScope s_law_draw) := ⟨rfl, rfl, rfl, by decide +kernel, rfl, by decide +kernel, by decide +kernel⟩
theorem bd_law_draw {K : PySem.W.Frag} : ∀ fd, FunD K "_law_draw" "_law_draw" (defArgs s_law_draw) (defBody s_law_draw) (defScope s_law_draw) [] [] (He.ga K "_law_draw") fd → BD K fd ["pot", "many"] 2 [] (fun ds _ => ds) := bd_n fun _ _ _ _ _ _ us hl => match us, hl with | [_, _], _ => rfl
theorem sc_law_word : FnScope ["pot", "size", "k"] ["pot", "size"] (defScope s_law_word) := ⟨rfl, rfl, rfl, by decide +kernel, rfl, by decide +kernel, by decide +kernel⟩
theorem bd_law_word {K : PySem.W.Frag} : ∀ fd, FunD K "_law_word" "_law_word" (defArgs s_law_word) (defBody s_law_word) (defScope s_law_word) [] [] (He.ga K "_law_word") fd → BD K fd ["pot", "size"] 2 [] (fun ds _ => ds) := bd_n fun _ _ _ _ _ _ us hl => match us, hl with | [_, _], _ => rfl
theorem sc_law_sign : FnScope ["pot", "signs"] ["pot"] (defScope s_law_sign) := ⟨rfl, rfl, rfl, by decide +kernel, rfl, by decide +kernel, by decide +kernel⟩
theorem bd_law_sign {K : PySem.W.Frag} : ∀ fd, FunD K "_law_sign" "_law_sign" (defArgs s_law_sign) (defBody s_law_sign) (defScope s_law_sign) [] [] (He.ga K "_law_sign") fd → BD K fd ["pot"] 1 [] (fun ds _ => ds) := bd_n fun _ _ _ _ _ _ us hl => match us, hl with | [_], _ => rfl
theorem sc_law_spoilt : FnScope ["pot", "word", "at", "way"] ["pot", "word"] (defScope s_law_spoilt) := ⟨rfl, rfl, rfl, by decide +kernel, rfl, by decide +kernel, by decide +kernel⟩
theorem bd_law_spoilt {K : PySem.W.Frag} : ∀ fd, FunD K "_law_spoilt" "_law_spoilt" (defArgs s_law_spoilt) (defBody s_law_spoilt) (defScope s_law_spoilt) [] [] (He.ga K "_law_spoilt") fd → BD K fd ["pot", "word"] 2 [] (fun ds _ => ds) := bd_n fun _ _ _ _ _ _ us hl => match us, hl with | [_, _], _ => rfl
theorem sc_law_odd : FnScope ["pot", "word", "some"] ["pot", "word"] (defScope s_law_odd) := ⟨rfl, rfl, rfl, by decide +kernel, rfl, by decide +kernel, by decide +kernel⟩
theorem bd_law_odd {K : PySem.W.Frag} : ∀ fd, FunD K "_law_odd" "_law_odd" (defArgs s_law_odd) (defBody s_law_odd) (defScope s_law_odd) [] [] (He.ga K "_law_odd") fd → BD K fd ["pot", "word"] 2 [] (fun ds _ => ds) := bd_n fun _ _ _ _ _ _ us hl => match us, hl with | [_, _], _ => rfl
theorem sc_law_drawn : FnScope ["pot", "way", "word"] ["pot"] (defScope s_law_drawn) := ⟨rfl, rfl, rfl, by decide +kernel, rfl, by decide +kernel, by decide +kernel⟩
theorem bd_law_drawn {K : PySem.W.Frag} : ∀ fd, FunD K "_law_drawn" "_law_drawn" (defArgs s_law_drawn) (defBody s_law_drawn) (defScope s_law_drawn) [] [] (He.ga K "_law_drawn") fd → BD K fd ["pot"] 1 [] (fun ds _ => ds) := bd_n fun _ _ _ _ _ _ us hl => match us, hl with | [_], _ => rfl
theorem sc_law_is_name : FnScope ["some", "sign"] ["some"] (defScope s_law_is_name) := ⟨rfl, rfl, rfl, by decide +kernel, rfl, by decide +kernel, by decide +kernel⟩
theorem bd_law_is_name {K : PySem.W.Frag} : ∀ fd, FunD K "_law_is_name" "_law_is_name" (defArgs s_law_is_name) (defBody s_law_is_name) (defScope s_law_is_name) [] [] (He.ga K "_law_is_name") fd → BD K fd ["some"] 1 [] (fun ds _ => ds) := bd_n fun _ _ _ _ _ _ us hl => match us, hl with | [_], _ => rfl
theorem sc_law_same : FnScope ["found", "due"] ["found", "due"] (defScope s_law_same) := ⟨rfl, rfl, rfl, by decide +kernel, rfl, by decide +kernel, by decide +kernel⟩
theorem bd_law_same {K : PySem.W.Frag} : ∀ fd, FunD K "_law_same" "_law_same" (defArgs s_law_same) (defBody s_law_same) (defScope s_law_same) [] [] (He.ga K "_law_same") fd → BD K fd ["found", "due"] 2 [] (fun ds _ => ds) := bd_n fun _ _ _ _ _ _ us hl => match us, hl with | [_, _], _ => rfl
theorem sc_law : FnScope ["script", "k", "some", "kept", "due", "found"] ["script"] (defScope s_law) := ⟨rfl, rfl, rfl, by decide +kernel, rfl, by decide +kernel, by decide +kernel⟩
theorem bd_law {K : PySem.W.Frag} : ∀ fd, FunD K "law" "law" (defArgs s_law) (defBody s_law) (defScope s_law) [] [] (He.ga K "law") fd → BD K fd ["script"] 1 [] (fun ds _ => ds) := bd_n fun _ _ _ _ _ _ us hl => match us, hl with | [_], _ => rfl
include C
theorem o_is_name : FK P w K mg base 1 "is_name" (defArgs s_is_name) (defBody s_is_name) (defScope s_is_name) [] [] ["thing"] G_is_name := by
  have nd := (sc_is_name).nd
  exact (fk_ok (N := ["thing", "sign"]) (k := 0) (fb := b_is_name) C.f_is_name C.g_is_name sc_is_name fun f cdv A outer s H E hr =>
    (jss_cons (js_if (jt_w (jw_or (jt_not (jt_tru (je_callB cr_isi ol_dat rfl C.b_isinstance bt_isinstance (ja_cons (je_var 0) (ja_cons (je_ty rfl C.b_str bt_str) ja_nil))))) (jw_or1 (jt_not (jt_chain op_LtE op_LtE o2d o2d je_int (je_callB cr_len ol_dat rfl C.b_len bt_len (ja_cons (je_var 0) ja_nil)) (je_gint rfl C.c_LONGEST)))))) (jss_one (js_ret je_bl)) jss_nil)
  (jss_one (js_ret (je_callB (cr_allD rfl) ol_dat rfl C.b_all bt_all (ja_cons (je_lc rfl nd (own := [("sign", 1)]) (ji_any (je_var 0)) (by kernel_rfl) (by decide) (fun _ _ _ _ _ => (jg_name 1 nd)) (fun _ _ _ _ _ => jts_nil) (fun _ _ _ _ _ => (je_cmp (op_In hr) (by rfl) o2d (je_var 1) (je_gstr rfl C.c_LETTERS)))) ja_nil))))))
theorem o_law_pot : FK P w K mg base 1 "_law_pot" (defArgs s_law_pot) (defBody s_law_pot) (defScope s_law_pot) [] [] ["script", "k"] G_law_pot := by
  have nd := (sc_law_pot).nd
  exact (fk_ok (N := ["script", "k", "cell"]) (k := 0) (fb := b_law_pot) C.f_law_pot C.g_law_pot sc_law_pot fun f cdv A outer s H E hr =>
    (jss_cons (js_set 2 nd (je_if (jt_cmp op_Lt (by rfl) o2d (je_var 1) (je_callB cr_len ol_dat rfl C.b_len bt_len (ja_cons (je_var 0) ja_nil))) (je_ix ix_D o2d (je_var 0) (je_var 1)) je_int))
  (jss_one (js_ret (je_lstC (ja_cons (je_callB (cr_maxD rfl) ol_dat rfl C.b_max bt_max (ja_cons je_int (ja_cons (je_bin op_Sub o2d (je_callB cr_abs ol_dat rfl C.b_abs bt_abs (ja_cons (je_var 2) ja_nil)) (je_bin op_Pow o2d je_int je_int)) ja_nil))) (ja_cons (je_bin (op_Add false) o2d (je_bin (op_Add false) o2d (je_bin op_Mod o2d (je_callB cr_abs ol_dat rfl C.b_abs bt_abs (ja_cons (je_var 2) ja_nil)) je_int) (je_bin (op_Mult false) o2d je_int (je_var 1))) je_int) ja_nil)))))))
theorem o_law_draw : FK P w K mg base 1 "_law_draw" (defArgs s_law_draw) (defBody s_law_draw) (defScope s_law_draw) [] [] ["pot", "many"] G_law_draw := by
  have nd := (sc_law_draw).nd
  exact (fk_ok (N := ["pot", "many", "digit"]) (k := 0) (fb := b_law_draw) C.f_law_draw C.g_law_draw sc_law_draw fun f cdv A outer s H E hr =>
    (jss_cons (js_if (jt_cmp op_Gt (by rfl) o2d (je_ix ix_D o2d (je_var 0) je_int) je_int) (jss_cons (js_asg (je_callB cr_divmod ol_dat rfl C.b_divmod bt_divmod (ja_cons (je_ix ix_D o2d (je_var 0) je_int) (ja_cons (je_var 1) ja_nil))) (jg_tup rfl (jgs_cons (jg_sub set_L o3d (je_var 0) je_int) (jgs_cons (jg_name 2 nd) jgs_nil))))
  (jss_one (js_ret (je_var 2)))) jss_nil)
  (jss_cons (js_asg (je_bin op_Mod o2d (je_bin (op_Add false) o2d (je_bin (op_Mult false) o2d (je_ix ix_D o2d (je_var 0) je_int) je_int) je_int) je_int) (jg_sub set_L o3d (je_var 0) je_int))
  (jss_one (js_ret (je_bin op_Mod o2d (je_bin op_FloorDiv o2d (je_bin op_Mod o2d (je_bin (op_Mult false) o2d (je_ix ix_D o2d (je_var 0) je_int) (je_ix ix_D o2d (je_var 0) je_int)) je_int) je_int) (je_var 1)))))))
theorem o_law_word : FK P w K mg base 2 "_law_word" (defArgs s_law_word) (defBody s_law_word) (defScope s_law_word) [] [] ["pot", "size"] G_law_word := by
  have k_law_draw := (o_law_draw (P := P) (w := w) (base := base) C).mono (k := 1) (by decide)
  have nd := (sc_law_word).nd
  exact (fk_ok (N := ["pot", "size", "k"]) (k := 1) (fb := b_law_word) C.f_law_word C.g_law_word sc_law_word fun f cdv A outer s H E hr =>
    (jss_one (js_ret (je_bm PySem.F.plainAttrs_str PySem.F.slot_str_join PySem.F.type_str_join mr_join omd je_str (ja_cons (je_lc rfl nd (own := [("k", 2)]) (ji_range1 rfl C.b_range (ja_cons (je_var 1) ja_nil)) (by kernel_rfl) (by decide) (fun _ _ _ _ _ => (jg_name 2 nd)) (fun _ _ _ _ _ => jts_nil) (fun _ _ _ _ _ => (je_ix ix_D o2d je_str (je_call k_law_draw hr (by exact rfl) bd_law_draw (ja_cons (je_var 0) (ja_cons je_int ja_nil)))))) ja_nil)))))
theorem o_law_sign : FK P w K mg base 2 "_law_sign" (defArgs s_law_sign) (defBody s_law_sign) (defScope s_law_sign) [] [] ["pot"] G_law_sign := by
  have k_law_draw := (o_law_draw (P := P) (w := w) (base := base) C).mono (k := 1) (by decide)
  have nd := (sc_law_sign).nd
  exact (fk_ok (N := ["pot", "signs"]) (k := 1) (fb := b_law_sign) C.f_law_sign C.g_law_sign sc_law_sign fun f cdv A outer s H E hr =>
    (jss_cons (js_set 1 nd je_str)
  (jss_one (js_ret (je_ix ix_D o2d (je_var 1) (je_call k_law_draw hr (by exact rfl) bd_law_draw (ja_cons (je_var 0) (ja_cons (je_callB cr_len ol_dat rfl C.b_len bt_len (ja_cons (je_var 1) ja_nil)) ja_nil))))))))
theorem o_law_spoilt : FK P w K mg base 3 "_law_spoilt" (defArgs s_law_spoilt) (defBody s_law_spoilt) (defScope s_law_spoilt) [] [] ["pot", "word"] G_law_spoilt := by
  have k_law_draw := (o_law_draw (P := P) (w := w) (base := base) C).mono (k := 2) (by decide)
  have k_law_sign := (o_law_sign (P := P) (w := w) (base := base) C).mono (k := 2) (by decide)
  have nd := (sc_law_spoilt).nd
  exact (fk_ok (N := ["pot", "word", "at", "way"]) (k := 2) (fb := b_law_spoilt) C.f_law_spoilt C.g_law_spoilt sc_law_spoilt fun f cdv A outer s H E hr =>
    (jss_cons (js_set 2 nd (je_call k_law_draw hr (by exact rfl) bd_law_draw (ja_cons (je_var 0) (ja_cons (je_bin (op_Add false) o2d (je_callB cr_len ol_dat rfl C.b_len bt_len (ja_cons (je_var 1) ja_nil)) je_int) ja_nil))))
  (jss_cons (js_set 3 nd (je_call k_law_draw hr (by exact rfl) bd_law_draw (ja_cons (je_var 0) (ja_cons je_int ja_nil))))
  (jss_cons (js_if (jt_cmp (op_Eq hr) (by rfl) o2d (je_var 3) je_int) (jss_one (js_ret (je_bin (op_Add false) o2d (je_bin (op_Add false) o2d (je_slice (sl_D false) osd (je_var 1) jo_none (jo_some (je_var 2))) (je_call k_law_sign hr (by exact rfl) bd_law_sign (ja_cons (je_var 0) ja_nil))) (je_slice (sl_D false) osd (je_var 1) (jo_some (je_var 2)) jo_none)))) jss_nil)
  (jss_cons (js_if (jt_cmp (op_Eq hr) (by rfl) o2d (je_var 3) je_int) (jss_one (js_ret (je_bin (op_Add false) o2d (je_bin (op_Add false) o2d (je_slice (sl_D false) osd (je_var 1) jo_none (jo_some (je_var 2))) (je_call k_law_sign hr (by exact rfl) bd_law_sign (ja_cons (je_var 0) ja_nil))) (je_slice (sl_D false) osd (je_var 1) (jo_some (je_bin (op_Add false) o2d (je_var 2) je_int)) jo_none)))) jss_nil)
  (jss_one (js_ret (je_bin (op_Add false) o2d (je_slice (sl_D false) osd (je_var 1) jo_none (jo_some (je_var 2))) (je_slice (sl_D false) osd (je_var 1) (jo_some (je_bin (op_Add false) o2d (je_var 2) je_int)) jo_none)))))))))
theorem o_law_odd : FK P w K mg base 2 "_law_odd" (defArgs s_law_odd) (defBody s_law_odd) (defScope s_law_odd) [] [] ["pot", "word"] G_law_odd := by
  have k_law_draw := (o_law_draw (P := P) (w := w) (base := base) C).mono (k := 1) (by decide)
  have nd := (sc_law_odd).nd
  exact (fk_ok (N := ["pot", "word", "some"]) (k := 1) (fb := b_law_odd) C.f_law_odd C.g_law_odd sc_law_odd fun f cdv A outer s H E hr =>
    (jss_cons (js_set 2 nd (je_lst (ja_cons je_non (ja_cons je_bl (ja_cons je_bl (ja_cons je_int (ja_cons je_int (ja_cons (je_un op_Neg o1d je_int) (ja_cons (je_bin op_Pow o2d je_int je_int) (ja_cons (je_lst ja_nil) (ja_cons (je_tup ja_nil) (ja_cons (je_frz je_dnewK) (ja_cons (je_lst (ja_cons (je_var 1) ja_nil)) (ja_cons (je_tup (ja_cons (je_var 1) ja_nil)) (ja_cons (je_frz (je_disp (JPs.cons (je_var 1) je_int JPs.nil))) (ja_cons (je_lst (ja_cons (je_lst (ja_cons (je_var 1) ja_nil)) ja_nil)) (ja_cons (je_tup (ja_cons (je_var 1) (ja_cons (je_var 1) ja_nil))) ja_nil)))))))))))))))))
  (jss_one (js_ret (je_ix ix_D o2d (je_var 2) (je_call k_law_draw hr (by exact rfl) bd_law_draw (ja_cons (je_var 0) (ja_cons (je_callB cr_len ol_dat rfl C.b_len bt_len (ja_cons (je_var 2) ja_nil)) ja_nil))))))))
theorem o_law_drawn : FK P w K mg base 4 "_law_drawn" (defArgs s_law_drawn) (defBody s_law_drawn) (defScope s_law_drawn) [] [] ["pot"] G_law_drawn := by
  have k_law_draw := (o_law_draw (P := P) (w := w) (base := base) C).mono (k := 3) (by decide)
  have k_law_word := (o_law_word (P := P) (w := w) (base := base) C).mono (k := 3) (by decide)
  have k_law_spoilt := (o_law_spoilt (P := P) (w := w) (base := base) C).mono (k := 3) (by decide)
  have k_law_odd := (o_law_odd (P := P) (w := w) (base := base) C).mono (k := 3) (by decide)
  have nd := (sc_law_drawn).nd
  exact (fk_ok (N := ["pot", "way", "word"]) (k := 3) (fb := b_law_drawn) C.f_law_drawn C.g_law_drawn sc_law_drawn fun f cdv A outer s H E hr =>
    (jss_cons (js_set 1 nd (je_call k_law_draw hr (by exact rfl) bd_law_draw (ja_cons (je_var 0) (ja_cons je_int ja_nil))))
  (jss_cons (js_set 2 nd (je_call k_law_word hr (by exact rfl) bd_law_word (ja_cons (je_var 0) (ja_cons (je_ix ix_D o2d (je_lst (ja_cons (je_bin (op_Add false) o2d je_int (je_call k_law_draw hr (by exact rfl) bd_law_draw (ja_cons (je_var 0) (ja_cons je_int ja_nil)))) (ja_cons (je_call k_law_draw hr (by exact rfl) bd_law_draw (ja_cons (je_var 0) (ja_cons je_int ja_nil))) ja_nil))) (je_call k_law_draw hr (by exact rfl) bd_law_draw (ja_cons (je_var 0) (ja_cons je_int ja_nil)))) ja_nil))))
  (jss_cons (js_if (jt_cmp (op_Eq hr) (by rfl) o2d (je_var 1) je_int) (jss_one (js_ret (je_call k_law_spoilt hr (by exact rfl) bd_law_spoilt (ja_cons (je_var 0) (ja_cons (je_var 2) ja_nil))))) jss_nil)
  (jss_cons (js_if (jt_cmp (op_Eq hr) (by rfl) o2d (je_var 1) je_int) (jss_one (js_ret (je_call k_law_odd hr (by exact rfl) bd_law_odd (ja_cons (je_var 0) (ja_cons (je_var 2) ja_nil))))) jss_nil)
  (jss_one (js_ret (je_var 2))))))))
theorem o_law_is_name : FK P w K mg base 1 "_law_is_name" (defArgs s_law_is_name) (defBody s_law_is_name) (defScope s_law_is_name) [] [] ["some"] G_law_is_name := by
  have nd := (sc_law_is_name).nd
  exact (fk_ok (N := ["some", "sign"]) (k := 0) (fb := b_law_is_name) C.f_law_is_name C.g_law_is_name sc_law_is_name fun f cdv A outer s H E hr =>
    (jss_cons (js_if (jt_w (jw_or (jt_not (jt_tru (je_callB cr_isi ol_dat rfl C.b_isinstance bt_isinstance (ja_cons (je_var 0) (ja_cons (je_ty rfl C.b_str bt_str) ja_nil))))) (jw_or1 (jt_not (jt_chain op_LtE op_LtE o2d o2d je_int (je_callB cr_len ol_dat rfl C.b_len bt_len (ja_cons (je_var 0) ja_nil)) je_int))))) (jss_one (js_ret je_bl)) jss_nil)
  (jss_one (js_ret (je_cmp (op_Eq hr) (by rfl) o2d (je_lc rfl nd (own := [("sign", 1)]) (ji_any (je_var 0)) (by kernel_rfl) (by decide) (fun _ _ _ _ _ => (jg_name 1 nd)) (fun _ _ _ _ _ => (jts_one (jt_cmp (op_NotIn hr) (by rfl) o2d (je_var 1) je_str))) (fun _ _ _ _ _ => (je_var 1))) (je_lst ja_nil))))))
theorem o_law_same : FK P w K mg base 1 "_law_same" (defArgs s_law_same) (defBody s_law_same) (defScope s_law_same) [] [] ["found", "due"] G_law_same := by
  have nd := (sc_law_same).nd
  exact (fk_ok (N := ["found", "due"]) (k := 0) (fb := b_law_same) C.f_law_same C.g_law_same sc_law_same fun f cdv A outer s H E hr =>
    (jss_one (js_ret (je_and (je_callB cr_isi ol_dat rfl C.b_isinstance bt_isinstance (ja_cons (je_var 0) (ja_cons (je_ty rfl C.b_bool bt_bool) ja_nil))) (je_one (je_cmp (op_Eq hr) (by rfl) o2d (je_var 0) (je_var 1)))))))
theorem o_law : FK P w K mg base 5 "law" (defArgs s_law) (defBody s_law) (defScope s_law) [] [] ["script"] G_law := by
  have k_law_drawn := (o_law_drawn (P := P) (w := w) (base := base) C).mono (k := 4) (by decide)
  have k_law_is_name := (o_law_is_name (P := P) (w := w) (base := base) C).mono (k := 4) (by decide)
  have k_law_same := (o_law_same (P := P) (w := w) (base := base) C).mono (k := 4) (by decide)
  have k_law_pot := (o_law_pot (P := P) (w := w) (base := base) C).mono (k := 4) (by decide)
  have k_is_name := (o_is_name (P := P) (w := w) (base := base) C).mono (k := 4) (by decide)
  have nd := (sc_law).nd
  exact (fk_ok (N := ["script", "k", "some", "kept", "due", "found"]) (k := 4) (fb := b_law) C.f_law C.g_law sc_law fun f cdv A outer s H E hr =>
    (jss_cons (js_for ownsC rfl (ji_range1 rfl C.b_range (ja_cons (je_callB (cr_maxD rfl) ol_dat rfl C.b_max bt_max (ja_cons je_int (ja_cons (je_callB (cr_minD rfl) ol_dat rfl C.b_min bt_min (ja_cons je_int (ja_cons (je_callB cr_len ol_dat rfl C.b_len bt_len (ja_cons (je_var 0) ja_nil)) ja_nil))) ja_nil))) ja_nil)) (jg_name 1 nd) (jss_cons (js_set 2 nd (je_call k_law_drawn hr (by exact rfl) bd_law_drawn (ja_cons (je_call k_law_pot hr (by exact rfl) bd_law_pot (ja_cons (je_var 0) (ja_cons (je_var 1) ja_nil))) ja_nil)))
  (jss_cons (js_set 3 nd (je_callB (cr_repr hr) ol_dat rfl C.b_repr bt_repr (ja_cons (je_var 2) ja_nil)))
  (jss_cons (js_set 4 nd (je_call k_law_is_name hr (by exact rfl) bd_law_is_name (ja_cons (je_var 2) ja_nil)))
  (jss_cons (js_if (jt_not (jt_tru (je_callB (cr_allD rfl) ol_dat rfl C.b_all bt_all (ja_cons (je_lc rfl nd (own := [("found", 5)]) (ji_any (je_lst (ja_cons (je_call k_is_name hr (by exact rfl) bd_is_name (ja_cons (je_var 2) ja_nil)) (ja_cons (je_callK0 k_is_name hr (by exact rfl) bk_is_name_0_thing (jk_cons (je_var 2) jk_nil)) (ja_cons (je_call k_is_name hr (by exact rfl) bd_is_name (ja_cons (je_var 2) ja_nil)) ja_nil))))) (by kernel_rfl) (by decide) (fun _ _ _ _ _ => (jg_name 5 nd)) (fun _ _ _ _ _ => jts_nil) (fun _ _ _ _ _ => (je_call k_law_same hr (by exact rfl) bd_law_same (ja_cons (je_var 5) (ja_cons (je_var 4) ja_nil))))) ja_nil)))) (jss_one (js_ret je_bl)) jss_nil)
  (jss_one (js_if (jt_cmp (op_NotEq hr) (by rfl) o2d (je_callB (cr_repr hr) ol_dat rfl C.b_repr bt_repr (ja_cons (je_var 2) ja_nil)) (je_var 3)) (jss_one (js_ret je_bl)) jss_nil)))))))
  (jss_one (js_ret (je_and (je_call k_law_same hr (by exact rfl) bd_law_same (ja_cons (je_call k_is_name hr (by exact rfl) bd_is_name (ja_cons je_str ja_nil)) (ja_cons je_bl ja_nil))) (je_one (je_call k_law_same hr (by exact rfl) bd_law_same (ja_cons (je_call k_is_name hr (by exact rfl) bd_is_name (ja_cons je_str ja_nil)) (ja_cons je_bl ja_nil))))))))).imp G_law_ok
end
def dd_is_name : He.DefD := ⟨("is_name", none), "is_name", "is_name", defArgs s_is_name, defBody s_is_name, defScope s_is_name, [], []⟩
def dd_law_pot : He.DefD := ⟨("_law_pot", none), "_law_pot", "_law_pot", defArgs s_law_pot, defBody s_law_pot, defScope s_law_pot, [], []⟩
def dd_law_draw : He.DefD := ⟨("_law_draw", none), "_law_draw", "_law_draw", defArgs s_law_draw, defBody s_law_draw, defScope s_law_draw, [], []⟩
def dd_law_word : He.DefD := ⟨("_law_word", none), "_law_word", "_law_word", defArgs s_law_word, defBody s_law_word, defScope s_law_word, [], []⟩
def dd_law_sign : He.DefD := ⟨("_law_sign", none), "_law_sign", "_law_sign", defArgs s_law_sign, defBody s_law_sign, defScope s_law_sign, [], []⟩
def dd_law_spoilt : He.DefD := ⟨("_law_spoilt", none), "_law_spoilt", "_law_spoilt", defArgs s_law_spoilt, defBody s_law_spoilt, defScope s_law_spoilt, [], []⟩
def dd_law_odd : He.DefD := ⟨("_law_odd", none), "_law_odd", "_law_odd", defArgs s_law_odd, defBody s_law_odd, defScope s_law_odd, [], []⟩
def dd_law_drawn : He.DefD := ⟨("_law_drawn", none), "_law_drawn", "_law_drawn", defArgs s_law_drawn, defBody s_law_drawn, defScope s_law_drawn, [], []⟩
def dd_law_is_name : He.DefD := ⟨("_law_is_name", none), "_law_is_name", "_law_is_name", defArgs s_law_is_name, defBody s_law_is_name, defScope s_law_is_name, [], []⟩
def dd_law_same : He.DefD := ⟨("_law_same", none), "_law_same", "_law_same", defArgs s_law_same, defBody s_law_same, defScope s_law_same, [], []⟩
def dd_law : He.DefD := ⟨("law", none), "law", "law", defArgs s_law, defBody s_law, defScope s_law, [], []⟩
def hfn : List He.DefD := [dd_is_name, dd_law_pot, dd_law_draw, dd_law_word, dd_law_sign, dd_law_spoilt, dd_law_odd, dd_law_drawn, dd_law_is_name, dd_law_same, dd_law]
def hfa : List He.Fa := [.glo "is_name", .glo "_law_pot", .glo "_law_draw", .glo "_law_word", .glo "_law_sign", .glo "_law_spoilt", .glo "_law_odd", .glo "_law_drawn", .glo "_law_is_name", .glo "_law_same", .glo "law", .free "abs", .free "all", .free "bool", .free "divmod", .free "isinstance", .free "len", .free "max", .free "min", .free "range", .free "repr", .free "str", .str "LETTERS" "abcdefghijklmnopqrstuvwxyz", .int "LONGEST" 8]
abbrev Rw : PySem.W.OpenRow := PySem.W.OpenLaw.row PySem.Challenge.rw_backwater_k11_names
abbrev hk : PySem.W.Hook := He.hookD 4 hfa hfn
def ob (s : PySem.W.SharedT) : He.AlD := He.obsDG 4 hfa hfn (HandSHeadRun.getT s)
theorem ob_eq (s : PySem.W.SharedT) : ob s = hk.obs s.abs := He.obsDG_eq (HandSHeadRun.getT_eq s)
def loose0 : List PySem.Str := ["LETTERS", "LONGEST", "is_name", "_law_pot", "_law_draw", "_law_word", "_law_sign", "_law_spoilt", "_law_odd", "_law_drawn", "_law_is_name", "_law_same"]
theorem run (w : World) : HandSHeadRun.RunEq Rw (PySem.W.view Rw.prog [14]) hk ob 1000 loose0 w := by
  intro os
  kernel_rfl
theorem cfg_of {K : PySem.W.Frag} {h : Heap} {mg : Str → Option Value} (X : K.In h) (G : h.Ns mainGlobals mg) (c : He.SaysD hfa hfn K) : Cfg K mg :=
  ⟨c.def_ 0 (d := dd_is_name) rfl,
   He.glo_ok X G (c.fact 0 (f := .glo "is_name") rfl),
   c.def_ 1 (d := dd_law_pot) rfl,
   He.glo_ok X G (c.fact 1 (f := .glo "_law_pot") rfl),
   c.def_ 2 (d := dd_law_draw) rfl,
   He.glo_ok X G (c.fact 2 (f := .glo "_law_draw") rfl),
   c.def_ 3 (d := dd_law_word) rfl,
   He.glo_ok X G (c.fact 3 (f := .glo "_law_word") rfl),
   c.def_ 4 (d := dd_law_sign) rfl,
   He.glo_ok X G (c.fact 4 (f := .glo "_law_sign") rfl),
   c.def_ 5 (d := dd_law_spoilt) rfl,
   He.glo_ok X G (c.fact 5 (f := .glo "_law_spoilt") rfl),
   c.def_ 6 (d := dd_law_odd) rfl,
   He.glo_ok X G (c.fact 6 (f := .glo "_law_odd") rfl),
   c.def_ 7 (d := dd_law_drawn) rfl,
   He.glo_ok X G (c.fact 7 (f := .glo "_law_drawn") rfl),
   c.def_ 8 (d := dd_law_is_name) rfl,
   He.glo_ok X G (c.fact 8 (f := .glo "_law_is_name") rfl),
   c.def_ 9 (d := dd_law_same) rfl,
   He.glo_ok X G (c.fact 9 (f := .glo "_law_same") rfl),
   c.def_ 10 (d := dd_law) rfl,
   He.glo_ok X G (c.fact 10 (f := .glo "law") rfl),
   He.free_ok X G (c.fact 11 (f := .free "abs") rfl),
   He.free_ok X G (c.fact 12 (f := .free "all") rfl),
   He.free_ok X G (c.fact 13 (f := .free "bool") rfl),
   He.free_ok X G (c.fact 14 (f := .free "divmod") rfl),
   He.free_ok X G (c.fact 15 (f := .free "isinstance") rfl),
   He.free_ok X G (c.fact 16 (f := .free "len") rfl),
   He.free_ok X G (c.fact 17 (f := .free "max") rfl),
   He.free_ok X G (c.fact 18 (f := .free "min") rfl),
   He.free_ok X G (c.fact 19 (f := .free "range") rfl),
   He.free_ok X G (c.fact 20 (f := .free "repr") rfl),
   He.free_ok X G (c.fact 21 (f := .free "str") rfl),
   He.str_ok X G (c.fact 22 (f := .str "LETTERS" "abcdefghijklmnopqrstuvwxyz") rfl),
   He.int_ok X G (c.fact 23 (f := .int "LONGEST" 8) rfl)⟩
theorem facts {P : Program} {w : World} {K : PySem.W.Frag} {h : Heap} {mg : Str → Option Value} {f : Addr} (X : K.In h) (G : h.Ns mainGlobals mg) (hfa' : mg ("law" : Str) = some (.ref f)) (c : He.SaysD hfa hfn K) :
    ∃ (fd : FuncData) (F : Fn), (∀ (s : Shared) (u : Value), BindsTo s fd ⟨[u], []⟩ [("script", u)]) ∧ (∀ ns : List Int, ns.length ≤ 63 → ∃ st, F [.node .sq (ns.map D.int)] ⟨[], []⟩ = .ok (.bl true) st) ∧ ∀ base : Heap, K.In base → base.Ns mainGlobals mg → FnG P w K mg base 5 f fd ["script"] F := by
  have C := cfg_of X G c
  have e := hfa'.symm.trans C.g_law
  cases e
  obtain ⟨fd, F⟩ := C.f_law
  have b := FunD.bindsA (ps := ["script"]) F fun _ _ _ _ _ _ us hl => match us, hl with | [_], _ => rfl
  refine ⟨fd, G_law, fun s v => b s [v] rfl, law_true, fun base _ _ => ?_⟩
  obtain ⟨fd', o, F'⟩ := (o_law (P := P) (w := w) (base := base) C).ex
  have e2 : fd' = fd := by
    obtain ⟨oc, od, dV, kV, doc, pm, an, cdv, ct, osl, e1, lk, _⟩ := F.ex
    obtain ⟨oc', od', dV', kV', doc', pm', an', cdv', ct', osl', e1', lk', _⟩ := F'.ex
    rw [lk] at lk'
    injection lk' with z
    injection z with z1 z2 z3 z4
    injection z3 with z5
    exact z5.symm
  subst e2
  exact o
end Bw
open PySem PySem.W PySem.Calls PyProof.Rows
theorem PySem.Challenge.cw_backwater_k11_names_holds : PySem.Challenge.rw_backwater_k11_names.Holds := by
  w_on; o_law
  refine HandSHeadRun.head_any (r := OpenLaw.row PySem.Challenge.rw_backwater_k11_names) (q := view (OpenLaw.row PySem.Challenge.rw_backwater_k11_names).prog [14]) (H := Bw.hk) (ob := Bw.ob) (M := 1000) (loose := Bw.loose0) (d := HandSHeadRun.topDef (OpenLaw.row PySem.Challenge.rw_backwater_k11_names).prog 14) (kwd := []) Bw.ob_eq
    (by kernel_rfl) (fun s => by kernel_rfl) Bw.run (by kernel_rfl) (by kernel_rfl) (by kernel_rfl) (by rfl) (by first | assumption | decide +kernel) (by decide +kernel) ⟨rfl, rfl, rfl, rfl, rfl, by decide +kernel⟩ ?hw ?hc
  case hw => w_witness2
  case hc =>
    refine Bw.walkG (l := PySem.Challenge.rw_backwater_k11_names) (n := 63) (k := 5) (x := "script") rfl (by decide) (by kernel_rfl) ⟨⟨rfl, by decide, by decide⟩, rfl⟩ ?F
    intro w mg fa h Y G hmg0
    obtain ⟨K, KX, c⟩ := Y
    have hmg : mg ("law" : PySem.Str) = some (.ref fa) := by
      have e : (HandSHeadRun.topDef (OpenLaw.row PySem.Challenge.rw_backwater_k11_names).prog 14).name = ("law" : PySem.Str) := by kernel_rfl
      rw [← e]
      exact hmg0
    obtain ⟨fd, F, hb, hF, o⟩ := Bw.facts (P := (PySem.Challenge.rw_backwater_k11_names).prog) (w := w) KX G hmg c
    exact ⟨K, fd, F, KX, hb, hF, o⟩

