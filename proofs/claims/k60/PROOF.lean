import PyProof.Rows.All
import Wide.All
import OpenK.AllK
import Wide.FinOn
import HandS.Base
import HandS.Call
import HandS.List
import HandS.Comp
import HandS.Iter
import HandS.Text
import HandS.Dict
import HandS.Words
import HandS.Deep
import HandS.IsInst
import HandS.TupAny
import HandS.TupMul
import HandS.TupLe
import HandS.Style
import PyProof.ReprRoads
import HandS.Ends
import HandS.More
import HandS.Small
import OpenK.KMore
import PyProof.ReprBulk
import PySem.Challenge.RW_turnedlooks_k60_trees_judged
set_option Elab.async false
set_option linter.all false
set_option maxRecDepth 100000
namespace Sh
open PySem PySem.Spec PyProof.Rows L2

/-- pure values; ref l: the l-th object of the store -/
inductive D where
  | non | bl (b : Bool) | int (i : Int) | str (s : Str)
  | lst (xs : List D) | tup (xs : List D) | dic (kvs : List (D × D))
  | obj (c : String) (fs : List (Str × D))
  /-- a dict whose keys are tuples -/
  | dit (kvs : List (D × D))
  | ref (l : Nat)
  /-- a list that is read alone (the script) -/
  | frl (xs : List D)
  deriving Inhabited

abbrev Sto := List D
inductive Res (α : Type) where
  | ok (a : α) (st : Sto)
  | exc (e : D) (st : Sto)
  | bad
def M (α : Type) := Sto → Res α
def M.pure {α : Type} (a : α) : M α := fun st => .ok a st
def M.bind {α β : Type} (m : M α) (f : α → M β) : M β := fun st => match m st with
  | .ok a st' => f a st'
  | .exc e st' => .exc e st'
  | .bad => .bad
instance : Monad M where
  pure := M.pure
  bind := M.bind
def M.bad {α : Type} : M α := fun _ => .bad
/-- what m gives is so -/
def M.gives {α : Type} (m : M α) (st : Sto) (P : α → Sto → Prop) : Prop := match m st with
  | .ok a st' => P a st'
  | _ => False
theorem M.gives_pure {α : Type} {a : α} {st : Sto} {P : α → Sto → Prop} : (Pure.pure a : M α).gives st P = P a st := rfl
theorem M.gives_bind {α β : Type} {m : M α} {f : α → M β} {st : Sto} {P : β → Sto → Prop} : (m >>= f).gives st P = m.gives st fun a st' => (f a).gives st' P := by
  show M.gives (M.bind m f) st P = _
  unfold M.gives M.bind
  cases m st <;> rfl
theorem M.gives_bad {α : Type} {st : Sto} {P : α → Sto → Prop} : (M.bad : M α).gives st P = False := rfl
theorem M.gives_mono {α : Type} {m : M α} {st : Sto} {P Q : α → Sto → Prop} (h : m.gives st P) (hq : ∀ a st', P a st' → Q a st') : m.gives st Q := by
  unfold M.gives at h ⊢
  cases e : m st with
  | ok a st' => rw [e] at h; exact hq _ _ h
  | exc _ _ => rw [e] at h; exact h
  | bad => rw [e] at h; exact h

/-- what is fixed: the written part, the classes by name -/
structure Gs where
  K : PySem.W.Frag
  cl : String → Option Addr

def Sub (F H : Hp) : Prop := ∀ a o, F a = some o → H a = some o
theorem Sub.refl (F : Hp) : Sub F F := fun _ _ h => h
theorem Sub.trans {A B C : Hp} (x : Sub A B) (y : Sub B C) : Sub A C := fun a o h => y a o (x a o h)
theorem Sub.free {F H : Hp} (x : Sub F H) {a : Addr} (h : H a = none) : F a = none := by
  cases e : F a with
  | none => rfl
  | some o => rw [x a o e] at h; cases h
theorem Sub.both {F H : Hp} {a : Addr} {o : HO} (x : Sub F H) : Sub (upd F a o) (upd H a o) := fun b u h => by
  by_cases e : b = a
  · subst e; rw [upd_same] at h ⊢; exact h
  · rw [upd_ne e] at h ⊢; exact x b u h
theorem Sub.addR {F H : Hp} {a : Addr} {o : HO} (x : Sub F H) (n : F a = none) : Sub F (upd H a o) := fun b u h => by
  by_cases e : b = a
  · subst e; rw [n] at h; cases h
  · rw [upd_ne e]; exact x b u h
theorem Sub.addL {F H : Hp} {a : Addr} {o : HO} (x : Sub F H) (n : H a = some o) : Sub (upd F a o) H := fun b u h => by
  by_cases e : b = a
  · subst e; rw [upd_same] at h; cases h; exact n
  · rw [upd_ne e] at h; exact x b u h
theorem Sub.seqL {K : PySem.W.Frag} {F H : Hp} {a : Addr} {xs : List V} (e : Sub F H) (h : SqL K F a xs) : SqL K H a xs := by
  rcases h with (h | ⟨o, h⟩) | h
  · exact .inl (.inl (e _ _ h))
  · exact .inl (.inr ⟨o, e _ _ h⟩)
  · exact .inr h
theorem Sub.seqT {K : PySem.W.Frag} {F H : Hp} {a : Addr} {xs : List V} (e : Sub F H) (h : SqT K F a xs) : SqT K H a xs := by
  rcases h with (h | ⟨o, h⟩) | h
  · exact .inl (.inl (e _ _ h))
  · exact .inl (.inr ⟨o, e _ _ h⟩)
  · exact .inr h

/-- the addresses of the store only grow -/
def Ext (μ μ' : List Addr) : Prop := ∃ m, μ' = μ ++ m
theorem Ext.refl (μ : List Addr) : Ext μ μ := ⟨[], by simp⟩
theorem Ext.trans {a b c : List Addr} : Ext a b → Ext b c → Ext a c := fun ⟨m, e⟩ ⟨n, e'⟩ => ⟨m ++ n, by rw [e', e, List.append_assoc]⟩
theorem Ext.get {μ μ' : List Addr} (h : Ext μ μ') {l : Nat} {a : Addr} (e : μ[l]? = some a) : μ'[l]? = some a := by
  obtain ⟨m, rfl⟩ := h
  rw [List.getElem?_append_left (List.getElem?_eq_some_iff.mp e).1]; exact e

/-- a dict with tuple keys: its entries are L (concrete) -/
def tHO (a : Addr) (L : List DictEntry) : HO := .ext fun h => ∃ o es ep, h.get? a = some o ∧ o.ExactDict ∧ o.data = .dict es ep ∧ es.toList = L ∧ L.length ≤ sizeLine ∧ (a == sysModules) = false

/-- texts as they come about here -/
def okS (s : Str) : Bool := decide (s.length ≤ 16777216) && PyData.strOk s
variable (G : Gs)

/-- a key of a flat dict -/
def D.key? : D → Option Key
  | .int i => some (.inl i)
  | .str s => some (.inr s)
  | _ => none

mutual
def Rp (μ : List Addr) (F : Hp) : D → V → Prop
  | .non, v => v = .non
  | .bl b, v => v = .bl b
  | .int i, v => v = .int i
  | .str s, v => v = .str s ∧ okS s = true
  | .lst ds, v => ds.length ≤ sizeLine ∧ ∃ a vs, v = .ref a ∧ F a = some (.lst vs) ∧ RpL μ F ds vs
  | .frl ds, v => ds.length ≤ sizeLine ∧ ∃ a vs, v = .ref a ∧ SqL G.K F a vs ∧ RpL μ F ds vs
  | .tup ds, v => ds.length ≤ sizeLine ∧ ∃ a vs, v = .ref a ∧ SqT G.K F a vs ∧ RpL μ F ds vs
  | .dic kvs, v => kvs.length ≤ sizeLine ∧ ∃ a L, v = .ref a ∧ F a = some (.dK L) ∧ RpK μ F kvs L
  | .dit kvs, v => kvs.length ≤ sizeLine ∧ ∃ a L, v = .ref a ∧ F a = some (tHO a L) ∧ RpE μ F kvs L
  | .obj c fs, v => ∃ a C dx fv, v = .ref a ∧ F a = some (.ins C dx fv) ∧ F dx = some (.own a) ∧ G.cl c = some C ∧ RpF μ F fs fv
  | .ref l, v => ∃ a, v = .ref a ∧ μ[l]? = some a
def RpL (μ : List Addr) (F : Hp) : List D → List V → Prop
  | [], vs => vs = []
  | d :: ds, vs => ∃ v r, vs = v :: r ∧ Rp μ F d v ∧ RpL μ F ds r
/-- flat keys -/
def RpK (μ : List Addr) (F : Hp) : List (D × D) → List (Key × V) → Prop
  | [], L => L = []
  | (k, d) :: r, L => ∃ q v L', L = (q, v) :: L' ∧ k.key? = some q ∧ (∀ s, q = .inr s → okS s = true) ∧ Rp μ F d v ∧ RpK μ F r L'
/-- tuple keys -/
def RpE (μ : List Addr) (F : Hp) : List (D × D) → List DictEntry → Prop
  | [], L => L = []
  | (k, d) :: r, L => ∃ e L', L = e :: L' ∧ (∃ kv, RelV kv e.key ∧ Rp μ F k kv) ∧ (∃ vv, RelV vv e.val ∧ Rp μ F d vv) ∧ RpE μ F r L'
def RpF (μ : List Addr) (F : Hp) : List (Str × D) → List (Str × V) → Prop
  | [], fv => fv = []
  | (n, d) :: r, fv => ∃ v r', fv = (n, v) :: r' ∧ Rp μ F d v ∧ RpF μ F r r'
end

section
variable {G} {μ μ' : List Addr} {F F' : Hp}
mutual
theorem Rp.mono (hm : Ext μ μ') (hs : Sub F F') : ∀ (d : D) (v : V), Rp G μ F d v → Rp G μ' F' d v
  | .non, v, h => h
  | .bl b, v, h => h
  | .int i, v, h => h
  | .str s, v, h => h
  | .lst ds, v, h => by
    obtain ⟨z, a, vs, e, q, r⟩ := h
    exact ⟨z, a, vs, e, hs _ _ q, RpL.mono hm hs ds vs r⟩
  | .frl ds, v, h => by
    obtain ⟨z, a, vs, e, q, r⟩ := h
    exact ⟨z, a, vs, e, hs.seqL q, RpL.mono hm hs ds vs r⟩
  | .tup ds, v, h => by
    obtain ⟨z, a, vs, e, q, r⟩ := h
    exact ⟨z, a, vs, e, hs.seqT q, RpL.mono hm hs ds vs r⟩
  | .dic kvs, v, h => by
    obtain ⟨z, a, L, e, q, r⟩ := h
    exact ⟨z, a, L, e, hs _ _ q, RpK.mono hm hs kvs L r⟩
  | .dit kvs, v, h => by
    obtain ⟨z, a, L, e, q, r⟩ := h
    exact ⟨z, a, L, e, hs _ _ q, RpE.mono hm hs kvs L r⟩
  | .obj c fs, v, h => by
    obtain ⟨a, C, dx, fv, e, q1, q2, q3, r⟩ := h
    exact ⟨a, C, dx, fv, e, hs _ _ q1, hs _ _ q2, q3, RpF.mono hm hs fs fv r⟩
  | .ref l, v, h => by
    obtain ⟨a, e, q⟩ := h
    exact ⟨a, e, hm.get q⟩
theorem RpL.mono (hm : Ext μ μ') (hs : Sub F F') : ∀ (ds : List D) (vs : List V), RpL G μ F ds vs → RpL G μ' F' ds vs
  | [], vs, h => h
  | d :: ds, vs, h => by
    obtain ⟨v, r, e, h1, h2⟩ := h
    exact ⟨v, r, e, Rp.mono hm hs d v h1, RpL.mono hm hs ds r h2⟩
theorem RpK.mono (hm : Ext μ μ') (hs : Sub F F') : ∀ (kvs : List (D × D)) (L : List (Key × V)), RpK G μ F kvs L → RpK G μ' F' kvs L
  | [], L, h => h
  | (k, d) :: r, L, h => by
    obtain ⟨q, v, L', e, h1, h2, h3, h4⟩ := h
    exact ⟨q, v, L', e, h1, h2, Rp.mono hm hs d v h3, RpK.mono hm hs r L' h4⟩
theorem RpE.mono (hm : Ext μ μ') (hs : Sub F F') : ∀ (kvs : List (D × D)) (L : List DictEntry), RpE G μ F kvs L → RpE G μ' F' kvs L
  | [], L, h => h
  | (k, d) :: r, L, h => by
    obtain ⟨e, L', e1, ⟨kv, h1, h2⟩, ⟨vv, h3, h4⟩, h5⟩ := h
    exact ⟨e, L', e1, ⟨kv, h1, Rp.mono hm hs k kv h2⟩, ⟨vv, h3, Rp.mono hm hs d vv h4⟩, RpE.mono hm hs r L' h5⟩
theorem RpF.mono (hm : Ext μ μ') (hs : Sub F F') : ∀ (fs : List (Str × D)) (fv : List (Str × V)), RpF G μ F fs fv → RpF G μ' F' fs fv
  | [], fv, h => h
  | (n, d) :: r, fv, h => by
    obtain ⟨v, r', e, h1, h2⟩ := h
    exact ⟨v, r', e, Rp.mono hm hs d v h1, RpF.mono hm hs r r' h2⟩
end
end

/-- a container at a that may be changed: d is what it holds -/
def ObjAt (μ : List Addr) (F H : Hp) (a : Addr) : D → Prop
  | .lst ds => F a = none ∧ ds.length ≤ sizeLine ∧ ∃ vs, H a = some (.lst vs) ∧ RpL G μ F ds vs
  | .dic kvs => F a = none ∧ kvs.length ≤ sizeLine ∧ ∃ L, H a = some (.dK L) ∧ RpK G μ F kvs L
  | .dit kvs => F a = none ∧ kvs.length ≤ sizeLine ∧ ∃ L, H a = some (tHO a L) ∧ RpE G μ F kvs L
  | .obj c fs => F a = none ∧ ∃ C dx fv, H a = some (.ins C dx fv) ∧ H dx = some (.own a) ∧ dx ∉ μ ∧ F dx = none ∧ G.cl c = some C ∧ RpF G μ F fs fv
  | _ => False
theorem ObjAt.frz {G : Gs} {μ : List Addr} {F H : Hp} {a : Addr} {d : D} (h : ObjAt G μ F H a d) : F a = none := by
  cases d <;> first | exact h.elim | exact h.1
theorem ObjAt.ex {G : Gs} {μ : List Addr} {F H : Hp} {a : Addr} {d : D} (h : ObjAt G μ F H a d) : ∃ o, H a = some o := by
  cases d <;> try exact h.elim
  · obtain ⟨_, _, vs, e, _⟩ := h; exact ⟨_, e⟩
  · obtain ⟨_, _, L, e, _⟩ := h; exact ⟨_, e⟩
  · obtain ⟨_, C, dx, fv, e, _⟩ := h; exact ⟨_, e⟩
  · obtain ⟨_, _, L, e, _⟩ := h; exact ⟨_, e⟩
/-- what an evaluation may do: more is frozen (new things alone), what stood and is none of the store stays, the store may have grown -/
structure Post (μ : List Addr) (F H : Hp) (μ' : List Addr) (F' H' : Hp) : Prop where
  subF : Sub F F'
  new : ∀ a o, F' a = some o → F a = some o ∨ H a = none
  keep : ∀ a o, H a = some o → a ∉ μ → H' a = some o
  ext : ∃ m, μ' = μ ++ m ∧ ∀ a ∈ m, H a = none
  there : ∀ a o, H a = some o → ∃ o', H' a = some o'
section
variable {G} {μ μ1 μ' : List Addr} {F F1 F' H H1 H' : Hp} {a : Addr} {d : D}
theorem Post.refl : Post μ F H μ F H := ⟨Sub.refl _, fun _ _ h => .inl h, fun _ _ h _ => h, ⟨[], by simp, by simp⟩, fun _ o h => ⟨o, h⟩⟩
theorem Post.mu (p : Post μ F H μ' F' H') : Ext μ μ' := let ⟨m, e, _⟩ := p.ext; ⟨m, e⟩
theorem Post.notin (p : Post μ F H μ' F' H') {o : HO} (h : H a = some o) (n : a ∉ μ) : a ∉ μ' := by
  obtain ⟨m, e, hm⟩ := p.ext
  subst e
  intro q
  rcases List.mem_append.mp q with q | q
  · exact n q
  · rw [hm a q] at h; cases h
theorem Post.unfrz (p : Post μ F H μ' F' H') {o : HO} (h : H a = some o) (n : F a = none) : F' a = none := by
  cases e : F' a with
  | none => rfl
  | some u =>
    rcases p.new a u e with q | q
    · rw [n] at q; cases q
    · rw [h] at q; cases q
theorem Post.free (p : Post μ F H μ' F' H') (h : H' a = none) : H a = none := by
  cases e : H a with
  | none => rfl
  | some o =>
    obtain ⟨o', e'⟩ := p.there a o e
    rw [h] at e'; cases e'
theorem Post.trans (p : Post μ F H μ1 F1 H1) (q : Post μ1 F1 H1 μ' F' H') : Post μ F H μ' F' H' where
  subF := p.subF.trans q.subF
  new := fun a o h => by
    rcases q.new a o h with h | h
    · exact p.new a o h
    · exact .inr (p.free h)
  keep := fun a o h n => q.keep a o (p.keep a o h n) (p.notin h n)
  ext := by
    obtain ⟨m, e, hm⟩ := p.ext
    obtain ⟨m', e', hm'⟩ := q.ext
    refine ⟨m ++ m', by rw [e', e, List.append_assoc], fun a ha => ?_⟩
    rcases List.mem_append.mp ha with ha | ha
    · exact hm a ha
    · exact p.free (hm' a ha)
  there := fun a o h => by
    obtain ⟨o1, h1⟩ := p.there a o h
    exact q.there a o1 h1
theorem Rp.post (p : Post μ F H μ' F' H') {v : V} (h : Rp G μ F d v) : Rp G μ' F' d v := Rp.mono p.mu p.subF d v h
theorem RpL.post (p : Post μ F H μ' F' H') {ds : List D} {vs : List V} (h : RpL G μ F ds vs) : RpL G μ' F' ds vs := RpL.mono p.mu p.subF ds vs h
/-- an unshared container stays -/
theorem ObjAt.post (p : Post μ F H μ' F' H') (h : ObjAt G μ F H a d) (n : a ∉ μ) : ObjAt G μ' F' H' a d := by
  cases d <;> try exact h.elim
  · obtain ⟨f, z, vs, e, r⟩ := h
    exact ⟨p.unfrz e f, z, vs, p.keep _ _ e n, RpL.mono p.mu p.subF _ _ r⟩
  · obtain ⟨f, z, L, e, r⟩ := h
    exact ⟨p.unfrz e f, z, L, p.keep _ _ e n, RpK.mono p.mu p.subF _ _ r⟩
  · obtain ⟨f, C, dx, fv, e1, e2, n2, f2, c, r⟩ := h
    exact ⟨p.unfrz e1 f, C, dx, fv, p.keep _ _ e1 n, p.keep _ _ e2 n2, p.notin e2 n2, p.unfrz e2 f2, c, RpF.mono p.mu p.subF _ _ r⟩
  · obtain ⟨f, z, L, e, r⟩ := h
    exact ⟨p.unfrz e f, z, L, p.keep _ _ e n, RpE.mono p.mu p.subF _ _ r⟩
end

/-- the store st lies at μ -/
structure StOk (μ : List Addr) (F H : Hp) (st : Sto) : Prop where
  sub : Sub F H
  len : μ.length = st.length
  nd : μ.Nodup
  obj : ∀ (l : Nat) (a : Addr) (d : D), μ[l]? = some a → st[l]? = some d → ObjAt G μ F H a d

/-- a slot's kind: a value; a container borrowed of the caller; a container of one's own -/
inductive Md where
  | val | bor | own
  deriving DecidableEq

abbrev Env := List (Option D)
def OwnAt (μ : List Addr) (F H : Hp) (a : Addr) (d : D) : Prop := a ∉ μ ∧ ObjAt G μ F H a d

structure EnvOk (md : List Md) (μ : List Addr) (F H : Hp) (ρ : Env) (σ : L2.St) : Prop where
  len : ρ.length = σ.length
  mdl : md.length = ρ.length
  ex : ∃ α : Nat → Option Addr, (∀ i m d, md[i]? = some m → ρ[i]? = some (some d) → ∃ v, σ[i]? = some (some v) ∧ match α i with
      | some a => v = .ref a ∧ m ≠ .val ∧ OwnAt G μ F H a d
      | none => m ≠ .own ∧ Rp G μ F d v) ∧
    (∀ i j a, α i = some a → α j = some a → i ≠ j → md[i]? ≠ some .own) ∧ ∀ i, (∀ d, ρ[i]? ≠ some (some d)) → α i = none
section
variable {G} {md : List Md} {μ μ' : List Addr} {F F' H H' : Hp} {ρ : Env} {σ : L2.St} {st : Sto}
theorem EnvOk.post (p : Post μ F H μ' F' H') (h : EnvOk G md μ F H ρ σ) : EnvOk G md μ' F' H' ρ σ := by
  obtain ⟨h0, h1, α, h2, h3, h4⟩ := h
  refine ⟨h0, h1, α, fun i m d e1 e2 => ?_, h3, h4⟩
  obtain ⟨v, e, q⟩ := h2 i m d e1 e2
  refine ⟨v, e, ?_⟩
  cases ha : α i with
  | none => rw [ha] at q; exact ⟨q.1, q.2.post p⟩
  | some a =>
    rw [ha] at q
    obtain ⟨q1, q2, q3, q4⟩ := q
    obtain ⟨o, ho⟩ := q4.ex
    exact ⟨q1, q2, p.notin ho q3, q4.post p q3⟩
end
end Sh
namespace Sh
open PySem PySem.Spec PyProof.Rows L2

/-- how a result lies: a value; a value or a container of one's own (borrowed); a new container of one's own -/
inductive Kd where
  | val | bor | fre
  deriving DecidableEq
def RK (G : Gs) : Kd → Hp → List Addr → Hp → Hp → D → V → Prop
  | .val, _, μ, F, _, d, v => Rp G μ F d v
  | .bor, _, μ, F, H, d, v => Rp G μ F d v ∨ ∃ a, v = .ref a ∧ OwnAt G μ F H a d
  | .fre, H0, μ, F, H, d, v => ∃ a, v = .ref a ∧ H0 a = none ∧ (∀ C dx fv, H a = some (.ins C dx fv) → H0 dx = none) ∧ OwnAt G μ F H a d
section
variable {G : Gs} {k : Kd} {H0 H0' : Hp} {μ μ' : List Addr} {F F' H H' : Hp} {d : D} {v : V}
theorem OwnAt.post {a : Addr} (p : Post μ F H μ' F' H') (h : OwnAt G μ F H a d) : OwnAt G μ' F' H' a d := by
  obtain ⟨o, ho⟩ := h.2.ex
  exact ⟨p.notin ho h.1, h.2.post p h.1⟩
theorem RK.post (p : Post μ F H μ' F' H') (h : RK G k H0 μ F H d v) : RK G k H0 μ' F' H' d v := by
  cases k with
  | val => exact Rp.post p h
  | bor =>
    rcases h with h | ⟨a, e, h⟩
    · exact .inl (Rp.post p h)
    · exact .inr ⟨a, e, h.post p⟩
  | fre =>
    obtain ⟨a, e, n, z, h⟩ := h
    obtain ⟨o, ho⟩ := h.2.ex
    refine ⟨a, e, n, fun C dx fv q => ?_, h.post p⟩
    have := p.keep a o ho h.1
    rw [q] at this; cases this
    exact z C dx fv ho
theorem RK.base (n : ∀ a, H0 a = none → H0' a = none) (h : RK G k H0 μ F H d v) : RK G k H0' μ F H d v := by
  cases k with
  | val => exact h
  | bor => exact h
  | fre =>
    obtain ⟨a, e, m, z, h⟩ := h
    exact ⟨a, e, n a m, fun C dx fv q => n dx (z C dx fv q), h⟩
end

/-- what is wanted of a result -/
def Want (G : Gs) (k : Kd) (μ : List Addr) (F H : Hp) (Q : VK) : D → Sto → Prop :=
  fun d st' => ∀ v μ' F' H', Post μ F H μ' F' H' → StOk G μ' F' H' st' → RK G k H μ' F' H' d v → Q v H'
theorem Want.after {G : Gs} {k : Kd} {μ μ1 : List Addr} {F F1 H H1 : Hp} {Q : VK} {d : D} {st : Sto} (p : Post μ F H μ1 F1 H1) (w : Want G k μ F H Q d st) : Want G k μ1 F1 H1 Q d st :=
  fun v μ' F' H' q s r => w v μ' F' H' (p.trans q) s (r.base fun _ n => p.free n)
/-- the reading of m -/
def tK (G : Gs) (md : List Md) (k : Kd) (m : Env → M D) : TE := fun σ H Q => ∃ ρ μ F st, EnvOk G md μ F H ρ σ ∧ StOk G μ F H st ∧ (m ρ).gives st (Want G k μ F H Q)
def WantL (G : Gs) (ks : List Kd) (μ : List Addr) (F H : Hp) (Q : List V → Hp → Prop) : List D → Sto → Prop :=
  fun ds st' => ∀ vs μ' F' H', Post μ F H μ' F' H' → StOk G μ' F' H' st' → (ds.length = ks.length ∧ vs.length = ks.length ∧ ∀ (i : Nat) (k : Kd) (d : D) (v : V), ks[i]? = some k → ds[i]? = some d → vs[i]? = some v → RK G k H μ' F' H' d v) → Q vs H'
def tKL (G : Gs) (md : List Md) (ks : List Kd) (m : Env → M (List D)) : TA := fun σ H Q => ∃ ρ μ F st, EnvOk G md μ F H ρ σ ∧ StOk G μ F H st ∧ (m ρ).gives st (WantL G ks μ F H Q)
/-- a test -/
def WantB (G : Gs) (μ : List Addr) (F H : Hp) (Q : Bool → Hp → Prop) : Bool → Sto → Prop :=
  fun b st' => ∀ μ' F' H', Post μ F H μ' F' H' → StOk G μ' F' H' st' → Q b H'
def tKB (G : Gs) (md : List Md) (m : Env → M Bool) : TT := fun σ H Q => ∃ ρ μ F st, EnvOk G md μ F H ρ σ ∧ StOk G μ F H st ∧ (m ρ).gives st (WantB G μ F H Q)

abbrev gs (X : Cx) (cl : String → Option Addr) : Gs := ⟨X.K, cl⟩
/-- THE JUDGEMENTS -/
def SK (cl : String → Option Addr) (md : List Md) (X : Cx) (k : Kd) (x : Expr) (m : Env → M D) : Prop := PE X x (tK (gs X cl) md k m)
def SA (cl : String → Option Addr) (md : List Md) (X : Cx) (ks : List Kd) (xs : List Expr) (m : Env → M (List D)) : Prop := PA X xs (tKL (gs X cl) md ks m)
def ST (cl : String → Option Addr) (md : List Md) (X : Cx) (x : Expr) (m : Env → M Bool) : Prop := PT X x (tKB (gs X cl) md m)

theorem PE.mono {X : Cx} {e : Expr} {t t' : TE} (h : PE X e t) (i : ∀ σ H Q, t' σ H Q → t σ H Q) : PE X e t' := ⟨fun pins s σ H Q I q => h.run pins s σ H Q I (i σ H Q q)⟩
theorem PT.mono {X : Cx} {e : Expr} {t t' : TT} (h : PT X e t) (i : ∀ σ H Q, t' σ H Q → t σ H Q) : PT X e t' := ⟨fun pins s σ H Q I q => h.run pins s σ H Q I (i σ H Q q)⟩
theorem PA.mono {X : Cx} {e : List Expr} {t t' : TA} (h : PA X e t) (i : ∀ σ H Q, t' σ H Q → t σ H Q) : PA X e t' := ⟨fun pos pins s σ H Q I q => h.run pos pins s σ H Q I (i σ H Q q)⟩
theorem PW.mono {X : Cx} {e : Expr} {t t' : TT} (h : PW X e t) (i : ∀ σ H Q, t' σ H Q → t σ H Q) : PW X e t' := ⟨fun wh pins s σ H Q I q => h.run wh pins s σ H Q I (i σ H Q q)⟩

section
variable {cl : String → Option Addr} {md : List Md} {X : Cx}

/-! ### weakening a result's kind -/
theorem sk_bor {x : Expr} {m : Env → M D} (h : SK cl md X .val x m) : SK cl md X .bor x m := PE.mono h fun σ H Q ⟨ρ, μ, F, st, hE, hS, g⟩ =>
  ⟨ρ, μ, F, st, hE, hS, M.gives_mono g fun d st' w v μ' F' H' p s r => w v μ' F' H' p s (.inl r)⟩
/-- freezing -/
theorem StOk.frz1 {G : Gs} {μ : List Addr} {F H : Hp} {st : Sto} {a : Addr} {u : HO} (s : StOk G μ F H st) (na : a ∉ μ) (hu : H a = some u) (no : ∀ x, u = .own x → x ∉ μ) : StOk G μ (upd F a u) H st := by
  have sF : ∀ b w, F b = some w → H b = some w := s.sub
  have sF2 : Sub F (upd F a u) := fun b w h => by
    by_cases e : b = a
    · subst e; rw [upd_same]; rw [s.sub _ _ h] at hu; exact hu.symm ▸ rfl
    · rw [upd_ne e]; exact h
  refine ⟨s.sub.addL hu, s.len, s.nd, fun l b e hl he => ?_⟩
  have q := s.obj l b e hl he
  have hb : b ∈ μ := List.mem_of_getElem? hl
  have frz : (upd F a u) b = F b := upd_ne fun e => na (e ▸ hb)
  cases e <;> try exact q.elim
  · obtain ⟨f, z, vs, e1, r⟩ := q
    exact ⟨by rw [frz]; exact f, z, vs, e1, RpL.mono (Ext.refl _) sF2 _ _ r⟩
  · obtain ⟨f, z, L, e1, r⟩ := q
    exact ⟨by rw [frz]; exact f, z, L, e1, RpK.mono (Ext.refl _) sF2 _ _ r⟩
  · obtain ⟨f, C, dx, fv, e1, e2, n2, f2, c, r⟩ := q
    refine ⟨by rw [frz]; exact f, C, dx, fv, e1, e2, n2, ?_, c, RpF.mono (Ext.refl _) sF2 _ _ r⟩
    rw [upd_ne (show dx ≠ a from fun e => ?_)]
    · exact f2
    · subst e
      rw [hu] at e2
      exact no b (Option.some.inj e2) hb
  · obtain ⟨f, z, L, e1, r⟩ := q
    exact ⟨by rw [frz]; exact f, z, L, e1, RpE.mono (Ext.refl _) sF2 _ _ r⟩
theorem Post.frz1 {μ μ' : List Addr} {F F' H H' : Hp} {a : Addr} {u : HO} (p : Post μ F H μ' F' H') (fa : F' a = none) (n : H a = none) : Post μ F H μ' (upd F' a u) H' :=
  ⟨p.subF.trans (Sub.addR (Sub.refl _) fa), fun b w h => by
    by_cases e : b = a
    · subst e; exact .inr n
    · rw [upd_ne e] at h; exact p.new b w h, p.keep, p.ext, p.there⟩
theorem freeze {G : Gs} {μ μ' : List Addr} {F F' H H' : Hp} {st : Sto} {d : D} {v : V} (p : Post μ F H μ' F' H') (s : StOk G μ' F' H' st) (o : RK G .fre H μ' F' H' d v) :
    ∃ F2, Post μ F H μ' F2 H' ∧ StOk G μ' F2 H' st ∧ Rp G μ' F2 d v := by
  obtain ⟨a, rfl, n, z, na, oa⟩ := o
  cases d <;> try exact oa.elim
  · obtain ⟨f, zz, vs, e1, r⟩ := oa
    exact ⟨upd F' a _, p.frz1 f n, s.frz1 na e1 (fun x h => by cases h), zz, a, vs, rfl, upd_same, RpL.mono (Ext.refl _) (Sub.addR (Sub.refl _) f) _ _ r⟩
  · obtain ⟨f, zz, L, e1, r⟩ := oa
    exact ⟨upd F' a _, p.frz1 f n, s.frz1 na e1 (fun x h => by cases h), zz, a, L, rfl, upd_same, RpK.mono (Ext.refl _) (Sub.addR (Sub.refl _) f) _ _ r⟩
  · obtain ⟨f, C, dx, fv, e1, e2, n2, f2, c, r⟩ := oa
    have ne : dx ≠ a := fun e => by subst e; rw [e1] at e2; cases e2
    have s1 : StOk G μ' (upd F' a _) H' st := s.frz1 na e1 (fun x h => by cases h)
    have f2' : (upd F' a (.ins C dx fv)) dx = none := by rw [upd_ne ne]; exact f2
    exact ⟨upd (upd F' a _) dx _, (p.frz1 f n).frz1 f2' (z C dx fv e1), s1.frz1 n2 e2 (fun x h => by cases h; exact na), a, C, dx, fv, rfl, by rw [upd_ne ne.symm, upd_same], upd_same, c,
      RpF.mono (Ext.refl _) ((Sub.addR (Sub.refl _) f).trans (Sub.addR (Sub.refl _) f2')) _ _ r⟩
  · obtain ⟨f, zz, L, e1, r⟩ := oa
    exact ⟨upd F' a _, p.frz1 f n, s.frz1 na e1 (fun x h => by cases h), zz, a, L, rfl, upd_same, RpE.mono (Ext.refl _) (Sub.addR (Sub.refl _) f) _ _ r⟩
theorem sk_frz {x : Expr} {m : Env → M D} (h : SK cl md X .fre x m) : SK cl md X .val x m := PE.mono h fun σ H Q ⟨ρ, μ, F, st, hE, hS, g⟩ =>
  ⟨ρ, μ, F, st, hE, hS, M.gives_mono g fun d st' w v μ' F' H' p s r => by
    obtain ⟨F2, p2, s2, r2⟩ := freeze p s r
    exact w v μ' F2 H' p2 s2 r2⟩
theorem sk_frzB {x : Expr} {m : Env → M D} (h : SK cl md X .fre x m) : SK cl md X .bor x m := sk_bor (sk_frz h)

/-! ### names and constants -/
def getV (ρ : Env) (i : Nat) : M D := match ρ[i]? with
  | some (some d) => pure d
  | _ => M.bad
theorem getV_gives {ρ : Env} {i : Nat} {st : Sto} {P : D → Sto → Prop} (h : (getV ρ i).gives st P) : ∃ d, ρ[i]? = some (some d) ∧ P d st := by
  unfold getV at h
  cases e : ρ[i]? with
  | none => rw [e] at h; exact h.elim
  | some o =>
    cases o with
    | none => rw [e] at h; exact h.elim
    | some d => rw [e] at h; exact ⟨d, rfl, h⟩
theorem sk_var (i : Nat) {x : Str} {pos : Pos} (hm : md[i]? = some .val := by rfl) (hN : X.N[i]? = some x := by rfl) (hv : Vis X.env.scope x := by first | exact Or.inl rfl | exact Or.inr (Or.inl rfl) | exact Or.inr (Or.inr rfl)) (hd : (x == ("__debug__" : Str)) = false := by decide)
    (hcd : (x == ("__classdict__" : Str)) = false := by decide) : SK cl md X .val (.Name x pos) (fun ρ => getV ρ i) := PE.mono (pe_var hN hv hd hcd) fun σ H Q ⟨ρ, μ, F, st, hE, hS, g⟩ => by
  obtain ⟨d, e, w⟩ := getV_gives g
  obtain ⟨_, _, α, h2, _⟩ := hE
  obtain ⟨v, ev, q⟩ := h2 i .val d hm e
  refine ⟨v, ev, ?_⟩
  cases ha : α i with
  | none => rw [ha] at q; exact w v μ F H .refl hS q.2
  | some a => rw [ha] at q; exact absurd rfl q.2.1
theorem sk_own (i : Nat) {x : Str} {pos : Pos} (hm : (md[i]?).isSome = true := by rfl) (hN : X.N[i]? = some x := by rfl) (hv : Vis X.env.scope x := by first | exact Or.inl rfl | exact Or.inr (Or.inl rfl) | exact Or.inr (Or.inr rfl)) (hd : (x == ("__debug__" : Str)) = false := by decide)
    (hcd : (x == ("__classdict__" : Str)) = false := by decide) : SK cl md X .bor (.Name x pos) (fun ρ => getV ρ i) := PE.mono (pe_var hN hv hd hcd) fun σ H Q ⟨ρ, μ, F, st, hE, hS, g⟩ => by
  obtain ⟨d, e, w⟩ := getV_gives g
  obtain ⟨_, _, α, h2, _⟩ := hE
  obtain ⟨m, hm'⟩ := Option.isSome_iff_exists.mp hm
  obtain ⟨v, ev, q⟩ := h2 i m d hm' e
  refine ⟨v, ev, ?_⟩
  cases ha : α i with
  | none => rw [ha] at q; exact w v μ F H .refl hS (.inl q.2)
  | some a => rw [ha] at q; exact w v μ F H .refl hS (.inr ⟨a, q.1, q.2.2⟩)
/-- a constant's reading -/
theorem sk_con {x : Expr} {d : D} {v : V} (h : PE X x (tC v)) (r : ∀ μ F, Rp (gs X cl) μ F d v) : SK cl md X .val x (fun _ => pure d) := PE.mono h fun σ H Q ⟨ρ, μ, F, st, hE, hS, g⟩ => g v μ F H .refl hS (r μ F)
theorem sk_int {i j pos} : SK cl md X .val (.Constant (.int i) j pos) (fun _ => pure (.int i)) := sk_con pe_int fun _ _ => rfl
theorem sk_bl {b j pos} : SK cl md X .val (.Constant (.bool b) j pos) (fun _ => pure (.bl b)) := sk_con pe_bl fun _ _ => rfl
theorem sk_non {j pos} : SK cl md X .val (.Constant .none j pos) (fun _ => pure .non) := sk_con pe_non fun _ _ => rfl
theorem sk_str {x : Str} {j pos} (h : okS x = true := by decide +kernel) : SK cl md X .val (.Constant (.str x) j pos) (fun _ => pure (.str x)) := sk_con pe_str fun _ _ => ⟨rfl, h⟩

/-! ### operators, by values -/
/-- what the operator's rule asks is had where g gives something -/
def Op2 (G : Gs) (ka kb k : Kd) (r : R2) (g : D → D → M D) : Prop := ∀ (μ : List Addr) (F H H1 H2 : Hp) (st : Sto) (d e : D) (v u : V) (Q : VK), StOk G μ F H st → RK G ka H1 μ F H d v → RK G kb H2 μ F H e u → (g d e).gives st (Want G k μ F H Q) → r v u H Q
theorem seq2 {ka kb k : Kd} {ma mb : Env → M D} {g : D → D → M D} {r : R2} (hg : Op2 (gs X cl) ka kb k r g) {σ : L2.St} {H : Hp} {Q : VK}
    (h : tK (gs X cl) md k (fun ρ => do let x ← ma ρ; let y ← mb ρ; g x y) σ H Q) : tOp r (tK (gs X cl) md ka ma) (tK (gs X cl) md kb mb) σ H Q := by
  obtain ⟨ρ, μ, F, st, hE, hS, w⟩ := h
  refine ⟨ρ, μ, F, st, hE, hS, ?_⟩
  rw [M.gives_bind] at w
  refine M.gives_mono w fun d st1 w1 v μ1 F1 H1 p1 s1 r1 => ⟨ρ, μ1, F1, st1, hE.post p1, s1, ?_⟩
  rw [M.gives_bind] at w1
  refine M.gives_mono w1 fun e st2 w2 u μ2 F2 H2 p2 s2 r2 => hg μ2 F2 H2 H H1 st2 d e v u Q s2 (r1.post p2) r2 (M.gives_mono w2 fun x st' wx => (wx.after p1).after p2)
theorem sk_op {ka kb k : Kd} {a b : Expr} {ma mb : Env → M D} {op : Operator} {pos : Pos} {g : D → D → M D} {r : R2} (ho : OpR X (binaryOp op) r) (hg : Op2 (gs X cl) ka kb k r g) (ha : SK cl md X ka a ma) (hb : SK cl md X kb b mb) :
    SK cl md X k (.BinOp a op b pos) (fun ρ => do let x ← ma ρ; let y ← mb ρ; g x y) := PE.mono (pe_op ho ha hb) fun σ H Q h => seq2 hg h
theorem sk_cmp {ka kb k : Kd} {a b : Expr} {ma mb : Env → M D} {op : CmpOp} {pos : Pos} {g : D → D → M D} {r : R2} (ho : OpR X (compareOp op) r) (hg : Op2 (gs X cl) ka kb k r g) (ha : SK cl md X ka a ma) (hb : SK cl md X kb b mb) (hm : behindInMarks op b = false) :
    SK cl md X k (.Compare a [op] [b] pos) (fun ρ => do let x ← ma ρ; let y ← mb ρ; g x y) := PE.mono (pe_cmpR ho ha hb hm) fun σ H Q h => seq2 hg h
/-- a test by a comparison -/
def asB : D → M Bool
  | .bl b => pure b
  | _ => M.bad
theorem asB_gives {d : D} {st : Sto} {P : Bool → Sto → Prop} (h : (asB d).gives st P) : ∃ b, d = .bl b ∧ P b st := by
  cases d <;> first | exact h.elim | exact ⟨_, rfl, h⟩
theorem test_of {m : Env → M D} {σ : L2.St} {H : Hp} {Q : Bool → Hp → Prop} {P : TE} (hp : ∀ Q, tK (gs X cl) md .val m σ H Q → P σ H Q) (h : tKB (gs X cl) md (fun ρ => do let x ← m ρ; asB x) σ H Q) : P σ H fun x H' => ∃ k, x = .bl k ∧ Q k H' := by
  obtain ⟨ρ, μ, F, st, hE, hS, w⟩ := h
  refine hp _ ⟨ρ, μ, F, st, hE, hS, ?_⟩
  rw [M.gives_bind] at w
  refine M.gives_mono w fun d st1 w1 v μ1 F1 H1 p1 s1 r1 => ?_
  obtain ⟨b, rfl, w2⟩ := asB_gives w1
  exact ⟨b, r1, w2 μ1 F1 H1 p1 s1⟩
theorem st_cmp {ka kb : Kd} {a b : Expr} {ma mb : Env → M D} {op : CmpOp} {pos : Pos} {g : D → D → M D} {r : R2} (ho : OpR X (compareOp op) r) (hg : Op2 (gs X cl) ka kb .val r g) (ha : SK cl md X ka a ma) (hb : SK cl md X kb b mb) (hm : behindInMarks op b = false) :
    ST cl md X (.Compare a [op] [b] pos) (fun ρ => do let x ← (do let x ← ma ρ; let y ← mb ρ; g x y); asB x) := PT.mono (pt_cmpR ho ha hb hm) fun σ H Q h => test_of (P := tOp r _ _) (fun Q q => seq2 hg q) h
theorem st_val {x : Expr} {m : Env → M D} (h : SK cl md X .val x m) (he : ∀ whole, isTrue x X.env whole = (do let v ← whole; standAt x.pos; holding [v] (truthy v)) := by intro _; rfl) : ST cl md X x (fun ρ => do let x ← m ρ; asB x) :=
  PT.mono (pt_val h he) fun σ H Q h => test_of (P := tK (gs X cl) md .val m) (fun Q q => q) h

/-! ### not, and, or, if .. else -/
theorem st_not {x : Expr} {pos : Pos} {m : Env → M Bool} (h : ST cl md X x m) : ST cl md X (.UnaryOp .Not x pos) (fun ρ => do let b ← m ρ; pure (!b)) := PT.mono (pt_not h) fun σ H Q ⟨ρ, μ, F, st, hE, hS, w⟩ => by
  refine ⟨ρ, μ, F, st, hE, hS, ?_⟩
  rw [M.gives_bind] at w
  exact w

theorem tkb_bind {m : Env → M Bool} {f : Bool → Env → M Bool} {σ : L2.St} {H : Hp} {Q : Bool → Hp → Prop} {P : Bool → TT}
    (h : tKB (gs X cl) md (fun ρ => do let b ← m ρ; f b ρ) σ H Q) (hp : ∀ b H1, tKB (gs X cl) md (fun ρ => f b ρ) σ H1 Q → P b σ H1 Q) : tKB (gs X cl) md m σ H fun b H1 => P b σ H1 Q := by
  obtain ⟨ρ, μ, F, st, hE, hS, w⟩ := h
  refine ⟨ρ, μ, F, st, hE, hS, ?_⟩
  rw [M.gives_bind] at w
  exact M.gives_mono w fun b st1 w1 μ1 F1 H1 p1 s1 => hp b H1 ⟨ρ, μ1, F1, st1, hE.post p1, s1, M.gives_mono w1 fun c st2 w2 μ2 F2 H2 p2 s2 => w2 μ2 F2 H2 (p1.trans p2) s2⟩
theorem tkb_pure {b : Bool} {σ : L2.St} {H : Hp} {Q : Bool → Hp → Prop} (h : tKB (gs X cl) md (fun _ => pure b) σ H Q) : Q b H := by
  obtain ⟨ρ, μ, F, st, hE, hS, w⟩ := h
  exact w μ F H .refl hS
/-- a chain of and, or as a test -/
def SW (cl : String → Option Addr) (md : List Md) (X : Cx) (x : Expr) (m : Env → M Bool) : Prop := PW X x (tKB (gs X cl) md m)
theorem sw_t {x : Expr} {m : Env → M Bool} (h : SW cl md X x m) : ST cl md X x m := h.pt
theorem sw_and1 {a : Expr} {pos : Pos} {m : Env → M Bool} (h : ST cl md X a m) : SW cl md X (.BoolOp .And [a] pos) m := pw_and1 h
theorem sw_or1 {a : Expr} {pos : Pos} {m : Env → M Bool} (h : ST cl md X a m) : SW cl md X (.BoolOp .Or [a] pos) m := pw_or1 h
def andB (m n : Env → M Bool) : Env → M Bool := fun ρ => do
  let b ← m ρ
  if b = true then n ρ else pure false
def orB (m n : Env → M Bool) : Env → M Bool := fun ρ => do
  let b ← m ρ
  if b = true then pure true else n ρ
theorem sw_and {a b : Expr} {rest : List Expr} {pos : Pos} {m n : Env → M Bool} (ha : ST cl md X a m) (hb : SW cl md X (.BoolOp .And (b :: rest) pos) n) : SW cl md X (.BoolOp .And (a :: b :: rest) pos) (andB m n) :=
  PW.mono (pw_and ha hb) fun σ H Q h => tkb_bind (P := fun c σ H1 Q => if c = true then tKB (gs X cl) md n σ H1 Q else Q false H1) h fun c H1 q => by
    cases c
    · rw [if_neg Bool.false_ne_true]
      exact tkb_pure (by simpa using q)
    · rw [if_pos rfl]
      simpa using q
theorem sw_or {a b : Expr} {rest : List Expr} {pos : Pos} {m n : Env → M Bool} (ha : ST cl md X a m) (hb : SW cl md X (.BoolOp .Or (b :: rest) pos) n) : SW cl md X (.BoolOp .Or (a :: b :: rest) pos) (orB m n) :=
  PW.mono (pw_or ha hb) fun σ H Q h => tkb_bind (P := fun c σ H1 Q => if c = true then Q true H1 else tKB (gs X cl) md n σ H1 Q) h fun c H1 q => by
    cases c
    · rw [if_neg Bool.false_ne_true]
      simpa using q
    · rw [if_pos rfl]
      exact tkb_pure (by simpa using q)

theorem tk_bind {k : Kd} {m : Env → M D} {f : D → Env → M D} {σ : L2.St} {H : Hp} {Q : VK} {P : D → V → L2.St → Hp → Prop}
    (h : tK (gs X cl) md k (fun ρ => do let b ← m ρ; f b ρ) σ H Q) (hp : ∀ d v H1, (∃ μ F H0, RK (gs X cl) .val H0 μ F H1 d v) → tK (gs X cl) md k (fun ρ => f d ρ) σ H1 Q → P d v σ H1) : tK (gs X cl) md .val m σ H fun v H1 => ∃ d, P d v σ H1 := by
  obtain ⟨ρ, μ, F, st, hE, hS, w⟩ := h
  refine ⟨ρ, μ, F, st, hE, hS, ?_⟩
  rw [M.gives_bind] at w
  exact M.gives_mono w fun d st1 w1 v μ1 F1 H1 p1 s1 r1 => ⟨d, hp d v H1 ⟨μ1, F1, H, r1⟩ ⟨ρ, μ1, F1, st1, hE.post p1, s1, M.gives_mono w1 fun e st2 w2 => w2.after p1⟩⟩
theorem tk_bindB {k : Kd} {m : Env → M Bool} {f : Bool → Env → M D} {σ : L2.St} {H : Hp} {Q : VK} {P : Bool → L2.St → Hp → Prop}
    (h : tK (gs X cl) md k (fun ρ => do let b ← m ρ; f b ρ) σ H Q) (hp : ∀ b H1, tK (gs X cl) md k (fun ρ => f b ρ) σ H1 Q → P b σ H1) : tKB (gs X cl) md m σ H fun b H1 => P b σ H1 := by
  obtain ⟨ρ, μ, F, st, hE, hS, w⟩ := h
  refine ⟨ρ, μ, F, st, hE, hS, ?_⟩
  rw [M.gives_bind] at w
  exact M.gives_mono w fun d st1 w1 μ1 F1 H1 p1 s1 => hp d H1 ⟨ρ, μ1, F1, st1, hE.post p1, s1, M.gives_mono w1 fun e st2 w2 => w2.after p1⟩
theorem tk_pure {d : D} {v : V} {σ : L2.St} {H : Hp} {Q : VK} (h : tK (gs X cl) md .val (fun _ => pure d) σ H Q) (r : ∀ μ F, Rp (gs X cl) μ F d v) : Q v H := by
  obtain ⟨ρ, μ, F, st, hE, hS, w⟩ := h
  exact w v μ F H .refl hS (r μ F)
theorem sk_if {k : Kd} {c a b : Expr} {pos : Pos} {mc : Env → M Bool} {ma mb : Env → M D} (hc : ST cl md X c mc) (ha : SK cl md X k a ma) (hb : SK cl md X k b mb) :
    SK cl md X k (.IfExp c a b pos) (fun ρ => do let t ← mc ρ; if t = true then ma ρ else mb ρ) := PE.mono (pe_ifExp hc ha hb) fun σ H Q h =>
  tk_bindB (P := fun c σ H1 => if c = true then tK (gs X cl) md k ma σ H1 Q else tK (gs X cl) md k mb σ H1 Q) h fun c H1 q => by
    cases c
    · rw [if_neg Bool.false_ne_true]; simpa using q
    · rw [if_pos rfl]; simpa using q
theorem sk_not {a : Expr} {pos : Pos} {m : Env → M D} (h : SK cl md X .val a m) : SK cl md X .val (.UnaryOp .Not a pos) (fun ρ => do let x ← m ρ; let b ← asB x; pure (.bl (!b))) := PE.mono (pe_not h) fun σ H Q ⟨ρ, μ, F, st, hE, hS, w⟩ => by
  refine ⟨ρ, μ, F, st, hE, hS, ?_⟩
  rw [M.gives_bind] at w
  refine M.gives_mono w fun d st1 w1 v μ1 F1 H1 p1 s1 r1 => ?_
  rw [M.gives_bind] at w1
  obtain ⟨b, rfl, w2⟩ := asB_gives w1
  exact ⟨b, r1, w2 _ μ1 F1 H1 p1 s1 rfl⟩
def andD (m n : Env → M D) : Env → M D := fun ρ => do
  let x ← m ρ
  let b ← asB x
  if b = true then n ρ else pure (.bl false)
def orD (m n : Env → M D) : Env → M D := fun ρ => do
  let x ← m ρ
  let b ← asB x
  if b = true then pure (.bl true) else n ρ
theorem sk_one {op} {a : Expr} {pos : Pos} {m : Env → M D} (h : SK cl md X .val a m) : SK cl md X .val (.BoolOp op [a] pos) m := pe_one h
theorem sk_and {a b : Expr} {rest : List Expr} {pos : Pos} {m n : Env → M D} (ha : SK cl md X .val a m) (hb : SK cl md X .val (.BoolOp .And (b :: rest) pos) n) : SK cl md X .val (.BoolOp .And (a :: b :: rest) pos) (andD m n) :=
  PE.mono (pe_and ha hb) fun σ H Q ⟨ρ, μ, F, st, hE, hS, w⟩ => by
    refine ⟨ρ, μ, F, st, hE, hS, ?_⟩
    unfold andD at w
    rw [M.gives_bind] at w
    refine M.gives_mono w fun d st1 w1 v μ1 F1 H1 p1 s1 r1 => ?_
    rw [M.gives_bind] at w1
    obtain ⟨b, rfl, w2⟩ := asB_gives w1
    refine ⟨b, r1, ?_⟩
    cases b
    · rw [if_neg Bool.false_ne_true] at w2 ⊢
      exact w2 _ μ1 F1 H1 p1 s1 rfl
    · rw [if_pos rfl] at w2 ⊢
      exact ⟨ρ, μ1, F1, st1, hE.post p1, s1, M.gives_mono w2 fun e st2 w3 => w3.after p1⟩
theorem sk_or {a b : Expr} {rest : List Expr} {pos : Pos} {m n : Env → M D} (ha : SK cl md X .val a m) (hb : SK cl md X .val (.BoolOp .Or (b :: rest) pos) n) : SK cl md X .val (.BoolOp .Or (a :: b :: rest) pos) (orD m n) :=
  PE.mono (pe_or ha hb) fun σ H Q ⟨ρ, μ, F, st, hE, hS, w⟩ => by
    refine ⟨ρ, μ, F, st, hE, hS, ?_⟩
    unfold orD at w
    rw [M.gives_bind] at w
    refine M.gives_mono w fun d st1 w1 v μ1 F1 H1 p1 s1 r1 => ?_
    rw [M.gives_bind] at w1
    obtain ⟨b, rfl, w2⟩ := asB_gives w1
    refine ⟨b, r1, ?_⟩
    cases b
    · rw [if_neg Bool.false_ne_true] at w2 ⊢
      exact ⟨ρ, μ1, F1, st1, hE.post p1, s1, M.gives_mono w2 fun e st2 w3 => w3.after p1⟩
    · rw [if_pos rfl] at w2 ⊢
      exact w2 _ μ1 F1 H1 p1 s1 rfl

/-! ### lists of expressions -/
theorem sa_nil : SA cl md X [] [] (fun _ => pure []) := PA.mono pa_nil fun σ H Q ⟨ρ, μ, F, st, hE, hS, w⟩ => w [] μ F H .refl hS ⟨rfl, rfl, fun i k d v h => by simp at h⟩
theorem sa_cons {k : Kd} {ks : List Kd} {e : Expr} {es : List Expr} {m : Env → M D} {n : Env → M (List D)} (h : SK cl md X k e m) (hr : SA cl md X ks es n) (hs : starEach (e :: es) X.env = (false, eval e X.env) :: starEach es X.env := by rfl) :
    SA cl md X (k :: ks) (e :: es) (fun ρ => do let x ← m ρ; let r ← n ρ; pure (x :: r)) := PA.mono (pa_cons h hr hs) fun σ H Q ⟨ρ, μ, F, st, hE, hS, w⟩ => by
  refine ⟨ρ, μ, F, st, hE, hS, ?_⟩
  rw [M.gives_bind] at w
  refine M.gives_mono w fun d st1 w1 v μ1 F1 H1 p1 s1 r1 => ⟨ρ, μ1, F1, st1, hE.post p1, s1, ?_⟩
  rw [M.gives_bind] at w1
  refine M.gives_mono w1 fun ds st2 w2 vs μ2 F2 H2 p2 s2 r2 => ?_
  refine w2 (v :: vs) μ2 F2 H2 (p1.trans p2) s2 ⟨by simp [r2.1], by simp [r2.2.1], fun i k' d' v' h1 h2 h3 => ?_⟩
  cases i with
  | zero =>
    simp only [List.getElem?_cons_zero, Option.some.injEq] at h1 h2 h3
    subst h1 h2 h3
    exact r1.post p2
  | succ i =>
    simp only [List.getElem?_cons_succ] at h1 h2 h3
    exact (r2.2.2 i k' d' v' h1 h2 h3).base fun _ n => p1.free n
theorem rpl_of {G : Gs} {μ : List Addr} {F H H0 : Hp} : ∀ {n : Nat} {ds : List D} {vs : List V}, ds.length = n → vs.length = n → (∀ (i : Nat) (k : Kd) (d : D) (v : V), (List.replicate n Kd.val)[i]? = some k → ds[i]? = some d → vs[i]? = some v → RK G k H0 μ F H d v) → RpL G μ F ds vs
  | 0, [], [], _, _, _ => rfl
  | n + 1, d :: ds, v :: vs, h1, h2, h => ⟨v, vs, rfl, h 0 .val d v rfl rfl rfl, rpl_of (n := n) (by simpa using h1) (by simpa using h2) fun i k d' v' e1 e2 e3 => h (i + 1) k d' v' (by rw [List.replicate_succ]; simpa using e1) (by simpa using e2) (by simpa using e3)⟩
theorem rpl_len {G : Gs} {μ : List Addr} {F : Hp} : ∀ {ds : List D} {vs : List V}, RpL G μ F ds vs → vs.length = ds.length
  | [], _, h => by have h : _ = _ := h; subst h; rfl
  | d :: ds, _, h => by
    obtain ⟨v, r, e, _, h2⟩ := h
    subst e
    simp [rpl_len h2]
/-! ### a new thing is laid -/
theorem Post.alloc {μ μ' : List Addr} {F F' H H' : Hp} {a : Addr} {o : HO} (p : Post μ F H μ' F' H') (n : H' a = none) : Post μ F H μ' F' (upd H' a o) :=
  ⟨p.subF, p.new, fun b u h nb => by rw [upd_ne (ne_of_none (p.keep b u h nb) n)]; exact p.keep b u h nb, p.ext, fun b u h => by
    obtain ⟨u', h'⟩ := p.there b u h
    exact ⟨u', by rw [upd_ne (ne_of_none h' n)]; exact h'⟩⟩
theorem ObjAt.alloc {G : Gs} {μ : List Addr} {F H : Hp} {a b : Addr} {o : HO} {d : D} (h : ObjAt G μ F H b d) (n : H a = none) : ObjAt G μ F (upd H a o) b d := by
  cases d <;> try exact h.elim
  · obtain ⟨f, z, vs, e, r⟩ := h
    exact ⟨f, z, vs, by rw [upd_ne (ne_of_none e n)]; exact e, r⟩
  · obtain ⟨f, z, L, e, r⟩ := h
    exact ⟨f, z, L, by rw [upd_ne (ne_of_none e n)]; exact e, r⟩
  · obtain ⟨f, C, dx, fv, e1, e2, n2, f2, c, r⟩ := h
    exact ⟨f, C, dx, fv, by rw [upd_ne (ne_of_none e1 n)]; exact e1, by rw [upd_ne (ne_of_none e2 n)]; exact e2, n2, f2, c, r⟩
  · obtain ⟨f, z, L, e, r⟩ := h
    exact ⟨f, z, L, by rw [upd_ne (ne_of_none e n)]; exact e, r⟩
theorem StOk.alloc {G : Gs} {μ : List Addr} {F H : Hp} {st : Sto} {a : Addr} {o : HO} (s : StOk G μ F H st) (n : H a = none) : StOk G μ F (upd H a o) st :=
  ⟨s.sub.addR (s.sub.free n), s.len, s.nd, fun l b d hl hd => (s.obj l b d hl hd).alloc n⟩
theorem StOk.notin {G : Gs} {μ : List Addr} {F H : Hp} {st : Sto} {a : Addr} (s : StOk G μ F H st) (n : H a = none) : a ∉ μ := fun h => by
  obtain ⟨l, hl, e⟩ := List.mem_iff_getElem.mp h
  have e' : μ[l]? = some a := by rw [List.getElem?_eq_getElem hl, e]
  have hl2 : l < st.length := by rw [← s.len]; exact hl
  obtain ⟨o, q⟩ := (s.obj l a _ e' (List.getElem?_eq_getElem hl2)).ex
  rw [n] at q; cases q
/-- .. a tuple, a list, frozen at once -/
theorem new_tup {G : Gs} {μ μ' : List Addr} {F F' H H' : Hp} {st : Sto} {a : Addr} {ds : List D} {vs : List V} (p : Post μ F H μ' F' H') (s : StOk G μ' F' H' st) (r : RpL G μ' F' ds vs) (n : H' a = none) (zl : ds.length ≤ sizeLine) :
    Post μ F H μ' (upd F' a (.tup vs)) (upd H' a (.tup vs)) ∧ StOk G μ' (upd F' a (.tup vs)) (upd H' a (.tup vs)) st ∧ Rp G μ' (upd F' a (.tup vs)) (.tup ds) (.ref a) :=
  have fa : F' a = none := s.sub.free n
  ⟨(p.alloc n).frz1 fa (p.free n), (s.alloc n).frz1 (s.notin n) upd_same (fun x h => by cases h), zl, a, vs, rfl, .inl (.inl upd_same), RpL.mono (Ext.refl _) (Sub.addR (Sub.refl _) fa) _ _ r⟩
/-- .. a list of one's own -/
theorem new_lst {G : Gs} {μ μ' : List Addr} {F F' H H' : Hp} {st : Sto} {a : Addr} {ds : List D} {vs : List V} (p : Post μ F H μ' F' H') (s : StOk G μ' F' H' st) (r : RpL G μ' F' ds vs) (n : H' a = none) (zl : ds.length ≤ sizeLine) :
    Post μ F H μ' F' (upd H' a (.lst vs)) ∧ StOk G μ' F' (upd H' a (.lst vs)) st ∧ RK G .fre H μ' F' (upd H' a (.lst vs)) (.lst ds) (.ref a) :=
  ⟨p.alloc n, s.alloc n, a, rfl, p.free n, (fun C dx fv h => by rw [upd_same] at h; cases h), s.notin n, s.sub.free n, zl, vs, upd_same, r⟩
theorem line_of {n : Nat} (h : n ≤ 1000) : n ≤ sizeLine := by rw [sizeLine_eq]; omega
theorem sk_tup {n : Nat} {es : List Expr} {k} {pos : Pos} {m : Env → M (List D)} (h : SA cl md X (List.replicate n .val) es m) (hn : n ≤ 1000 := by decide) : SK cl md X .val (.Tuple es k pos) (fun ρ => do let ds ← m ρ; pure (.tup ds)) :=
  PE.mono (pe_tup h) fun σ H Q ⟨ρ, μ, F, st, hE, hS, w⟩ => by
    refine ⟨ρ, μ, F, st, hE, hS, ?_⟩
    rw [M.gives_bind] at w
    refine M.gives_mono w fun ds st1 w1 vs μ1 F1 H1 p1 s1 ⟨l1, l2, r1⟩ => ?_
    rw [List.length_replicate] at l1 l2
    refine ⟨by rw [l2]; exact line_of hn, fun a na => ?_⟩
    obtain ⟨p2, s2, r2⟩ := new_tup p1 s1 (rpl_of l1 l2 r1) na (by rw [l1]; exact line_of hn)
    exact w1 _ μ1 _ _ p2 s2 r2
theorem sk_lst {n : Nat} {es : List Expr} {pos : Pos} {m : Env → M (List D)} (h : SA cl md X (List.replicate n .val) es m) (hn : n ≤ 1000 := by decide) : SK cl md X .fre (.List es pos) (fun ρ => do let ds ← m ρ; pure (.lst ds)) :=
  PE.mono (pe_lst h) fun σ H Q ⟨ρ, μ, F, st, hE, hS, w⟩ => by
    refine ⟨ρ, μ, F, st, hE, hS, ?_⟩
    rw [M.gives_bind] at w
    refine M.gives_mono w fun ds st1 w1 vs μ1 F1 H1 p1 s1 ⟨l1, l2, r1⟩ => ?_
    rw [List.length_replicate] at l1 l2
    refine ⟨by rw [l2]; exact line_of hn, fun a na => ?_⟩
    obtain ⟨p2, s2, r2⟩ := new_lst p1 s1 (rpl_of l1 l2 r1) na (by rw [l1]; exact line_of hn)
    exact w1 _ μ1 _ _ p2 s2 r2
end
end Sh
namespace Sh
open PySem PySem.Spec PyProof.Rows L2

/-! ### what is walked: a list or a tuple -/
theorem pi_seq {X : Cx} {tg l : Expr} {tl : TE} (hl : PE X l tl) : PI X tg l (fun σ H R => tl σ H fun x H1 => ∃ a, x = .ref a ∧ (((∃ xs, SqL X.K H1 a xs) ∧ R (Itl X.K a) H1) ∨ ((∃ xs, SqT X.K H1 a xs) ∧ R (Itt X.K a) H1))) := by
  refine ⟨fun pins s σ H R I h => ?_⟩
  refine thn (hl.run pins s σ H _ I h) fun v s1 ⟨x, H1, I1, r1, q1⟩ => ?_
  obtain ⟨a, e, q⟩ := q1
  subst e
  cases r1
  rcases q with ⟨⟨xs, hq⟩, q⟩ | ⟨⟨xs, hq⟩, q⟩
  · obtain ⟨its, rv, p, hz⟩ := I1.list hq
    refine wpAny_pyIter_list p.isList ?_
    refine ⟨s1.heap.objs.size, [s1.heap.objs.size], _, _, H1, rfl, I1.kept (t' := s1.toks) fun b o e => Heap.get?_push_of_some _ e, turn_list a _, ⟨_, Heap.get?_push_size _ rfl, rfl, rfl⟩, fun b hb => ?_, q⟩
    have e : b = s1.heap.objs.size := by simpa using hb
    subst e
    exact I1.fpOk (Nat.le_refl _) (I1.hok.fresh (Nat.le_refl _))
  · obtain ⟨its, rv, p, hz⟩ := I1.tuple hq
    refine wpAny_pyIter_tuple (show s1.heap.IsTuple a its.toArray from p) ?_
    refine ⟨s1.heap.objs.size, [s1.heap.objs.size], _, _, H1, rfl, I1.kept (t' := s1.toks) fun b o e => Heap.get?_push_of_some _ e, turn_tuple a _, ⟨_, Heap.get?_push_size _ rfl, rfl, rfl⟩, fun b hb => ?_, q⟩
    have e : b = s1.heap.objs.size := by simpa using hb
    subst e
    exact I1.fpOk (Nat.le_refl _) (I1.hok.fresh (Nat.le_refl _))
theorem PI.mono {X : Cx} {tg e : Expr} {t t' : TI} (h : PI X tg e t) (i : ∀ σ H Q, t' σ H Q → t σ H Q) : PI X tg e t' := ⟨fun pins s σ H Q I q => h.run pins s σ H Q I (i σ H Q q)⟩

/-- an iterator that gives the items ds one by one; st: what must stay true of the heap while it is walked -/
structure ItOk (G : Gs) (J : It) (st : List Addr → Hp → Hp → Prop) (ds : List D) : Prop where
  keep : ∀ μ F H μ' F' H', st μ F H → Post μ F H μ' F' H' → st μ' F' H'
  go : ∀ i μ F H, st μ F H → Sub F H → i < ds.length → J.go i H
  yld : ∀ i μ F H x H' d s, st μ F H → StOk G μ F H s → ds[i]? = some d → J.yld i H x H' → ∃ F', Post μ F H μ F' H' ∧ StOk G μ F' H' s ∧ Rp G μ F' d x
  len : ds.length ≤ sizeLine
  stop : ∀ i μ F H, st μ F H → Sub F H → ds.length ≤ i → J.stop i H
def WantI (G : Gs) (μ : List Addr) (F H : Hp) (R : It → Hp → Prop) : List D → Sto → Prop :=
  fun ds st' => ∀ J K μ' F' H', Post μ F H μ' F' H' → StOk G μ' F' H' st' → ItOk G J K ds → K μ' F' H' → R J H'
def tKI (G : Gs) (md : List Md) (m : Env → M (List D)) : TI := fun σ H R => ∃ ρ μ F st, EnvOk G md μ F H ρ σ ∧ StOk G μ F H st ∧ (m ρ).gives st (WantI G μ F H R)
def SI (cl : String → Option Addr) (md : List Md) (X : Cx) (tg x : Expr) (m : Env → M (List D)) : Prop := PI X tg x (tKI (gs X cl) md m)

def itemsD : D → M (List D)
  | .lst ds => pure ds
  | .frl ds => pure ds
  | .tup ds => pure ds
  | _ => M.bad
theorem rpl_get {G : Gs} {μ : List Addr} {F : Hp} : ∀ {ds : List D} {vs : List V} {i : Nat} {d : D} {v : V}, RpL G μ F ds vs → ds[i]? = some d → vs[i]? = some v → Rp G μ F d v
  | [], _, i, _, _, _, h, _ => by simp at h
  | d :: ds, _, 0, _, _, h, h1, h2 => by
    obtain ⟨v, r, e, h3, h4⟩ := h
    subst e
    simp only [List.getElem?_cons_zero, Option.some.injEq] at h1 h2
    subst h1 h2
    exact h3
  | d :: ds, _, i + 1, _, _, h, h1, h2 => by
    obtain ⟨v, r, e, h3, h4⟩ := h
    subst e
    simp only [List.getElem?_cons_succ] at h1 h2
    exact rpl_get h4 h1 h2
theorem sql_fun {K : PySem.W.Frag} {H : Hp} {a : Addr} {xs : List V} (h : SqL K H a xs) : (∀ {i : Nat} {x : V}, xs[i]? = some x → (Itl K a).go i H) ∧ (∀ {i : Nat}, xs.length ≤ i → (Itl K a).stop i H) :=
  ⟨fun e => ⟨xs, _, h, e⟩, fun e => ⟨xs, h, e⟩⟩
theorem it_list {G : Gs} {a : Addr} {ds : List D} {vs : List V} (zl : ds.length ≤ sizeLine) : ItOk G (Itl G.K a) (fun μ F H => SqL G.K F a vs ∧ RpL G μ F ds vs) ds where
  keep := fun μ F H μ' F' H' ⟨h, r⟩ p => ⟨p.subF.seqL h, RpL.mono p.mu p.subF _ _ r⟩
  go := fun i μ F H ⟨h, r⟩ s hi => by
    have hv : i < vs.length := by rw [rpl_len r]; exact hi
    exact ⟨vs, vs[i], s.seqL h, List.getElem?_eq_getElem hv⟩
  yld := fun i μ F H x H' d st ⟨h, r⟩ s hd ⟨e, hx⟩ => by
    subst e
    exact ⟨F, .refl, s, rpl_get r hd (hx vs (s.sub.seqL h))⟩
  len := zl
  stop := fun i μ F H ⟨h, r⟩ s hi => ⟨vs, s.seqL h, by rw [rpl_len r]; exact hi⟩
theorem it_tup {G : Gs} {a : Addr} {ds : List D} {vs : List V} (zl : ds.length ≤ sizeLine) : ItOk G (Itt G.K a) (fun μ F H => SqT G.K F a vs ∧ RpL G μ F ds vs) ds where
  keep := fun μ F H μ' F' H' ⟨h, r⟩ p => ⟨p.subF.seqT h, RpL.mono p.mu p.subF _ _ r⟩
  go := fun i μ F H ⟨h, r⟩ s hi => by
    have hv : i < vs.length := by rw [rpl_len r]; exact hi
    exact ⟨vs, vs[i], s.seqT h, List.getElem?_eq_getElem hv⟩
  yld := fun i μ F H x H' d st ⟨h, r⟩ s hd ⟨e, hx⟩ => by
    subst e
    exact ⟨F, .refl, s, rpl_get r hd (hx vs (s.sub.seqT h))⟩
  len := zl
  stop := fun i μ F H ⟨h, r⟩ s hi => ⟨vs, s.seqT h, by rw [rpl_len r]; exact hi⟩
/-- .. a list of one's own that stays as it is -/
theorem it_own {G : Gs} {a : Addr} {ds : List D} {vs : List V} (zl : ds.length ≤ sizeLine) : ItOk G (Itl G.K a) (fun μ F H => a ∉ μ ∧ H a = some (.lst vs) ∧ RpL G μ F ds vs) ds where
  keep := fun μ F H μ' F' H' ⟨n, h, r⟩ p => ⟨p.notin h n, p.keep _ _ h n, RpL.mono p.mu p.subF _ _ r⟩
  go := fun i μ F H ⟨n, h, r⟩ s hi => by
    have hv : i < vs.length := by rw [rpl_len r]; exact hi
    exact ⟨vs, vs[i], .inl (.inl h), List.getElem?_eq_getElem hv⟩
  yld := fun i μ F H x H' d st ⟨n, h, r⟩ s hd ⟨e, hx⟩ => by
    subst e
    exact ⟨F, .refl, s, rpl_get r hd (hx vs (.inl (.inl h)))⟩
  len := zl
  stop := fun i μ F H ⟨n, h, r⟩ s hi => ⟨vs, .inl (.inl h), by rw [rpl_len r]; exact hi⟩
section
variable {cl : String → Option Addr} {md : List Md} {X : Cx}
/-- a walk over a list or a tuple (in an expression: a comprehension's, where one's own lists stand still) -/
theorem si_seq {tg x : Expr} {m : Env → M D} (h : SK cl md X .bor x m) : SI cl md X tg x (fun ρ => do let d ← m ρ; itemsD d) := PI.mono (pi_seq h) fun σ H R ⟨ρ, μ, F, st, hE, hS, w⟩ => by
  refine ⟨ρ, μ, F, st, hE, hS, ?_⟩
  rw [M.gives_bind] at w
  refine M.gives_mono w fun d st1 w1 v μ1 F1 H1 p1 s1 r1 => ?_
  cases d <;> try exact w1.elim
  · rcases r1 with ⟨z, a, vs, e, hq, r⟩ | ⟨a, e, n, f, z, vs, hq, r⟩
    · exact ⟨a, e, .inl ⟨⟨vs, .inl (.inl (s1.sub _ _ hq))⟩, w1 _ _ μ1 F1 H1 p1 s1 (it_list z) ⟨.inl (.inl hq), r⟩⟩⟩
    · exact ⟨a, e, .inl ⟨⟨vs, .inl (.inl hq)⟩, w1 _ _ μ1 F1 H1 p1 s1 (it_own z) ⟨n, hq, r⟩⟩⟩
  · rcases r1 with ⟨z, a, vs, e, hq, r⟩ | ⟨a, e, n, f⟩
    · exact ⟨a, e, .inr ⟨⟨vs, s1.sub.seqT hq⟩, w1 _ _ μ1 F1 H1 p1 s1 (it_tup z) ⟨hq, r⟩⟩⟩
    · exact f.elim
  · rcases r1 with ⟨z, a, vs, e, hq, r⟩ | ⟨a, e, n, f⟩
    · exact ⟨a, e, .inl ⟨⟨vs, s1.sub.seqL hq⟩, w1 _ _ μ1 F1 H1 p1 s1 (it_list z) ⟨hq, r⟩⟩⟩
    · exact f.elim
/-- range(n) -/
def rangeD (lo n : Int) : List D := (List.range (n - lo).toNat).map fun (i : Nat) => D.int (lo + i)
theorem it_range {G : Gs} {lo n : Int} (hz : n - lo ≤ 16777216) : ItOk G (Itr lo (n - lo).toNat) (fun _ _ _ => True) (rangeD lo n) where
  keep := fun _ _ _ _ _ _ _ _ => trivial
  go := fun i μ F H _ _ hi => by simpa [rangeD, Itr] using hi
  yld := fun i μ F H x H' d s _ hs hd ⟨e, hx⟩ => by
    subst e hx
    refine ⟨F, .refl, hs, ?_⟩
    have hi : i < (n - lo).toNat := by
      have := (List.getElem?_eq_some_iff.mp hd).1
      simpa [rangeD] using this
    simp only [rangeD, List.getElem?_map, List.getElem?_range hi, Option.map_some, Option.some.injEq] at hd
    subst hd
    exact rfl
  len := by simp only [rangeD, List.length_map, List.length_range]; rw [sizeLine_eq]; omega
  stop := fun i μ F H _ _ hi => by simpa [rangeD, Itr] using hi
def rng1 (d : D) : M (List D) := match d with
  | .int n => if -(2 ^ 62) ≤ n ∧ n ≤ 16777216 then pure (rangeD 0 n) else M.bad
  | _ => M.bad
theorem rng1_gives {d : D} {st : Sto} {P : List D → Sto → Prop} (h : (rng1 d).gives st P) : ∃ n : Int, d = .int n ∧ (-(2 ^ 62) ≤ n ∧ n ≤ 16777216) ∧ P (rangeD 0 n) st := by
  unfold rng1 at h
  cases d <;> try exact h.elim
  rename_i n
  simp only at h
  split at h
  · rename_i q; exact ⟨n, rfl, q, h⟩
  · exact h.elim
theorem si_range1 {tg a : Expr} {p pos : Pos} {m : Env → M D} (hg : Gl X "range") (hm : X.mg "range" = none) (h : SK cl md X .val a m) (hs : starEach [a] X.env = [(false, eval a X.env)] := by rfl) : SI cl md X tg (.Call (.Name "range" p) [a] [] pos) (fun ρ => do let d ← m ρ; rng1 d) :=
  PI.mono (pi_range1 hg hm (sa_cons h sa_nil (by rw [hs]; rfl)) hs) fun σ H R ⟨ρ, μ, F, st, hE, hS, w⟩ => by
    refine ⟨ρ, μ, F, st, hE, hS, ?_⟩
    rw [M.gives_bind] at w ⊢
    refine M.gives_mono w fun d st1 w1 => ?_
    show WantL _ _ _ _ _ _ [d] st1
    intro vs μ1 F1 H1 p1 s1 ⟨l1, l2, r1⟩
    obtain ⟨n, rfl, hn, w2⟩ := rng1_gives w1
    match vs, l2 with
    | [v], _ =>
      have rv := r1 0 .val (.int n) v rfl rfl rfl
      have ev : v = .int n := rv
      subst ev
      refine ⟨n, rfl, hn.1, by omega, ?_⟩
      have := w2 (Itr 0 (n - 0).toNat) _ μ1 F1 H1 p1 s1 (it_range (by omega)) trivial
      rw [Int.sub_zero] at this
      exact this
end
end Sh
namespace Sh
open PySem PySem.Spec PyProof.Rows L2

section
variable {G : Gs} {md : List Md} {μ μ1 : List Addr} {F F1 H H1 : Hp} {ρ : Env} {σ : L2.St} {st : Sto}
/-- a slot gets a value -/
theorem EnvOk.setV {i : Nat} {d : D} {v : V} (h : EnvOk G md μ F H ρ σ) (hm : md[i]? = some .val) (r : Rp G μ F d v) : EnvOk G md μ F H (ρ.set i (some d)) (σ.set i (some v)) := by
  obtain ⟨h0, h1, α, h2, h3, h4⟩ := h
  have hi : i < md.length := (List.getElem?_eq_some_iff.mp hm).1
  have hr : i < ρ.length := by rw [← h1]; exact hi
  have hs : i < σ.length := by rw [← h0]; exact hr
  refine ⟨by simp [h0], by simp [h1], α, fun j m e e1 e2 => ?_, h3, fun j e2 => ?_⟩
  · by_cases hj : i = j
    · subst hj
      rw [List.getElem?_set_self hr] at e2
      cases e2
      rw [hm] at e1; cases e1
      refine ⟨v, List.getElem?_set_self hs, ?_⟩
      cases ha : α i with
      | none => exact ⟨by decide, r⟩
      | some a =>
        exfalso
        by_cases q : ∃ e, ρ[i]? = some (some e)
        · obtain ⟨e, q⟩ := q
          obtain ⟨v', _, z⟩ := h2 i .val e hm q
          rw [ha] at z
          exact z.2.1 rfl
        · have := h4 i fun d z => q ⟨d, z⟩
          rw [ha] at this; cases this
    · rw [List.getElem?_set_ne hj] at e2 ⊢
      exact h2 j m e e1 e2
  · by_cases hj : i = j
    · subst hj
      cases ha : α i with
      | none => rfl
      | some a =>
        exfalso
        by_cases q : ∃ e, ρ[i]? = some (some e)
        · obtain ⟨e', q⟩ := q
          obtain ⟨v', _, z⟩ := h2 i .val e' hm q
          rw [ha] at z
          exact z.2.1 rfl
        · have := h4 i fun d z => q ⟨d, z⟩
          rw [ha] at this; cases this
    · exact h4 j fun d z => e2 d (by rw [List.getElem?_set_ne hj]; exact z)
/-- a slot is forgotten -/
theorem EnvOk.setN {i : Nat} (h : EnvOk G md μ F H ρ σ) : EnvOk G md μ F H (ρ.set i none) (σ.set i none) := by
  obtain ⟨h0, h1, α, h2, h3, h4⟩ := h
  refine ⟨by simp [h0], by simp [h1], fun j => if j = i then none else α j, fun j m e e1 e2 => ?_, fun j k a e1 e2 ne => ?_, fun j e2 => ?_⟩
  · have hj : i ≠ j := fun q => by
      subst q
      by_cases hl : i < ρ.length
      · rw [List.getElem?_set_self hl] at e2; cases e2
      · rw [List.getElem?_eq_none (by simpa using hl)] at e2; cases e2
    rw [List.getElem?_set_ne hj] at e2 ⊢
    obtain ⟨v, e3, z⟩ := h2 j m e e1 e2
    refine ⟨v, e3, ?_⟩
    simp only [if_neg (Ne.symm hj)]
    exact z
  · simp only at e1 e2
    split at e1
    · cases e1
    · split at e2
      · cases e2
      · exact h3 j k a e1 e2 ne
  · simp only
    split
    · rfl
    · rename_i hj
      exact h4 j fun d z => e2 d (by rw [List.getElem?_set_ne (fun q => hj q.symm)]; exact z)
def wipeE (ρ : Env) : List Nat → Env
  | [] => ρ
  | v :: vs => (wipeE ρ vs).set v none
theorem EnvOk.wipe (h : EnvOk G md μ F H ρ σ) : ∀ vs : List Nat, EnvOk G md μ F H (wipeE ρ vs) (L2.wipe σ vs)
  | [] => h
  | v :: vs => (EnvOk.wipe h vs).setN
theorem wipe_same {σ σ' : L2.St} (hl : σ'.length = σ.length) : ∀ {vs : List Nat}, (∀ i, i ∉ vs → σ'[i]? = σ[i]?) → L2.wipe σ' vs = L2.wipe σ vs := by
  intro vs h
  apply List.ext_getElem?
  intro i
  by_cases hi : i ∈ vs
  · have none_at : ∀ (τ : L2.St) (ws : List Nat), i ∈ ws → (L2.wipe τ ws)[i]? = if i < τ.length then some none else none := by
      intro τ ws
      induction ws with
      | nil => intro q; simp at q
      | cons w ws ih =>
        intro q
        show ((L2.wipe τ ws).set w none)[i]? = _
        by_cases hw : w = i
        · subst hw
          by_cases hl : w < τ.length
          · rw [List.getElem?_set_self (by rw [wipe_length]; exact hl), if_pos hl]
          · rw [List.getElem?_eq_none (by rw [List.length_set, wipe_length]; omega), if_neg hl]
        · rw [List.getElem?_set_ne hw]
          exact ih (by simpa [Ne.symm hw] using q)
    rw [none_at σ' vs hi, none_at σ vs hi, hl]
  · rw [wipe_out hi, wipe_out hi]
    exact h i hi
end

/-! ### targets -/
def tG (G : Gs) (md : List Md) (ns : List Nat) (g : D → Env → Option Env) : TG := fun v σ H Q => ∃ ρ μ F d ρ', EnvOk G md μ F H ρ σ ∧ Sub F H ∧ Rp G μ F d v ∧ g d ρ = some ρ' ∧
  ∀ σ', EnvOk G md μ F H ρ' σ' → σ'.length = σ.length → (∀ i, i ∉ ns → σ'[i]? = σ[i]? ∧ ρ'[i]? = ρ[i]?) → Q σ' H
def SG (cl : String → Option Addr) (md : List Md) (X : Cx) (ns : List Nat) (t : Expr) (g : D → Env → Option Env) : Prop := PG X t (tG (gs X cl) md ns g)
theorem PG.mono {X : Cx} {e : Expr} {t t' : TG} (h : PG X e t) (i : ∀ v σ H Q, t' v σ H Q → t v σ H Q) : PG X e t' := ⟨fun pins s σ H v u Q I r q => h.run pins s σ H v u Q I r (i v σ H Q q)⟩
theorem PGs.mono {X : Cx} {e : List Expr} {t t' : TGs} (h : PGs X e t) (i : ∀ v σ H Q, t' v σ H Q → t v σ H Q) : PGs X e t' := ⟨fun pins s σ H v u Q I r q => h.run pins s σ H v u Q I r (i v σ H Q q)⟩
def setV (i : Nat) (d : D) (ρ : Env) : Option Env := some (ρ.set i (some d))
def tGs (G : Gs) (md : List Md) (ns : List Nat) (g : List D → Env → Option Env) : TGs := fun vs σ H Q => ∃ ρ μ F ds ρ', EnvOk G md μ F H ρ σ ∧ Sub F H ∧ RpL G μ F ds vs ∧ g ds ρ = some ρ' ∧
  ∀ σ', EnvOk G md μ F H ρ' σ' → σ'.length = σ.length → (∀ i, i ∉ ns → σ'[i]? = σ[i]? ∧ ρ'[i]? = ρ[i]?) → Q σ' H
def SGs (cl : String → Option Addr) (md : List Md) (X : Cx) (ns : List Nat) (t : List Expr) (g : List D → Env → Option Env) : Prop := PGs X t (tGs (gs X cl) md ns g)
section
variable {cl : String → Option Addr} {md : List Md} {X : Cx}
theorem sg_name (i : Nat) {x : Str} {pos : Pos} (hN : X.N.Nodup) (hm : md[i]? = some .val := by rfl) (hi : X.N[i]? = some x := by rfl) (hx : Loc X.env.scope x := by first | exact Or.inl rfl | exact Or.inr rfl) (hf : X.fn x = true ∨ X.env.scope.names.lookup x = some .local := by first | exact .inl rfl | exact .inr rfl | assumption) :
    SG cl md X [i] (.Name x pos) (setV i) := PG.mono (pg_name hN hi hx hf) fun v σ H Q ⟨ρ, μ, F, d, ρ', hE, hS, r, e, w⟩ => by
  cases e
  refine w _ (hE.setV hm r) (by simp) fun j hj => ?_
  have nj : i ≠ j := fun q => hj (by simp [q])
  exact ⟨List.getElem?_set_ne nj, List.getElem?_set_ne nj⟩
def gNilD : List D → Env → Option Env
  | [], ρ => some ρ
  | _ :: _, _ => none
def gConsD (g : D → Env → Option Env) (h : List D → Env → Option Env) : List D → Env → Option Env
  | [], _ => none
  | d :: ds, ρ => (g d ρ).bind fun ρ' => h ds ρ'
theorem sgs_nil : SGs cl md X [] [] gNilD := PGs.mono pgs_nil fun vs σ H Q ⟨ρ, μ, F, ds, ρ', hE, hS, r, e, w⟩ => by
  cases ds with
  | cons d ds => cases e
  | nil => cases e; exact ⟨r, w σ hE rfl fun _ _ => ⟨rfl, rfl⟩⟩
theorem sgs_cons {n1 n2 : List Nat} {e : Expr} {es : List Expr} {g : D → Env → Option Env} {h : List D → Env → Option Env} (h1 : SG cl md X n1 e g) (h2 : SGs cl md X n2 es h)
    (hs : (assignEach (e :: es) X.env).map (·.2) = assign e X.env :: (assignEach es X.env).map (·.2) := by rfl) : SGs cl md X (n1 ++ n2) (e :: es) (gConsD g h) := PGs.mono (pgs_cons h1 h2 hs) fun vs σ H Q ⟨ρ, μ, F, ds, ρ', hE, hS, r, e, w⟩ => by
  cases ds with
  | nil => cases e
  | cons d ds =>
    obtain ⟨v, vr, ev, r1, r2⟩ := r
    obtain ⟨ρ1, e1, e2⟩ := Option.bind_eq_some_iff.mp e
    exact ⟨v, vr, ev, ρ, μ, F, d, ρ1, hE, hS, r1, e1, fun σ1 hE1 hl1 hσ1 => ⟨ρ1, μ, F, ds, ρ', hE1, hS, r2, e2, fun σ2 hE2 hl2 hσ2 => w σ2 hE2 (hl2.trans hl1) fun i hi => by
      have a1 := hσ2 i fun q => hi (List.mem_append_right _ q)
      have a2 := hσ1 i fun q => hi (List.mem_append_left _ q)
      exact ⟨a1.1.trans a2.1, a1.2.trans a2.2⟩⟩⟩
def gTupD (h : List D → Env → Option Env) : D → Env → Option Env
  | .tup ds, ρ => h ds ρ
  | _, _ => none
def LenD (h : List D → Env → Option Env) (n : Nat) : Prop := ∀ ds ρ ρ', h ds ρ = some ρ' → ds.length = n
theorem gl_nil : LenD gNilD 0 := fun ds ρ ρ' h => by cases ds <;> first | rfl | cases h
theorem gl_cons {g : D → Env → Option Env} {h : List D → Env → Option Env} {n : Nat} (q : LenD h n) : LenD (gConsD g h) (n + 1) := fun ds ρ ρ' e => by
  cases ds with
  | nil => cases e
  | cons d ds =>
    obtain ⟨ρ1, _, e2⟩ := Option.bind_eq_some_iff.mp e
    simp [q _ _ _ e2]
theorem sg_tup {ns : List Nat} {es : List Expr} {k n : Nat} {pos : Pos} {h : List D → Env → Option Env} (hc : X.calm = true) (h1 : SGs cl md X ns es h) (hlen : LenD h n)
    (hn : (assignEach es X.env).length = n := by rfl) (hst : (assignEach es X.env).findIdx? (·.1) = none := by rfl) : SG cl md X ns (.Tuple es k pos) (gTupD h) := PG.mono (pg_tup hc h1 hn hst) fun v σ H Q ⟨ρ, μ, F, d, ρ', hE, hS, r, e, w⟩ => by
  obtain ⟨ds, rfl⟩ : ∃ ds, d = .tup ds := by
    cases d <;> first | exact ⟨_, rfl⟩ | cases e
  have e : h ds ρ = some ρ' := e
  obtain ⟨_, a, vs, ev, hq, r⟩ := r
  exact ⟨a, vs, ev, hS.seqT hq, by rw [rpl_len r]; exact hlen _ _ _ e, ρ, μ, F, ds, ρ', hE, hS, r, e, w⟩

/-! ### [e for x in it if t] -/
def compD (g : D → Env → Option Env) (t : Env → M Bool) (e : Env → M D) (ρ : Env) : List D → M (List D)
  | [] => pure []
  | x :: xs => match g x ρ with
    | none => M.bad
    | some ρ1 => do
      let b ← t ρ1
      if b = true then do
        let y ← e ρ1
        let r ← compD g t e ρ xs
        pure (y :: r)
      else compD g t e ρ xs
theorem rpl_snoc {G : Gs} {μ : List Addr} {F : Hp} : ∀ {ds : List D} {vs : List V} {d : D} {v : V}, RpL G μ F ds vs → Rp G μ F d v → RpL G μ F (ds ++ [d]) (vs ++ [v])
  | [], _, d, v, h, r => by have h : _ = _ := h; subst h; exact ⟨v, [], rfl, r, rfl⟩
  | c :: ds, _, d, v, h, r => by
    obtain ⟨u, vr, e, h1, h2⟩ := h
    subst e
    exact ⟨u, vr ++ [v], rfl, h1, rpl_snoc h2 r⟩
/-- where a block's judgements are had: at every block that starts here -/
def Blk (X : Cx) (scope : Scope) (P : Cx → Prop) : Prop := ∀ (s : Shared) (H : Hp) (C : Addr) (cc : List (Str × Addr)) (fp : List Addr), P (X.blk s H scope (compEnvC scope cc C X.env) fp)
theorem Post.lstmut {μ0 μ : List Addr} {F0 F H0 H : Hp} {a : Addr} {o : HO} (p : Post μ0 F0 H0 μ F H) (n : H0 a = none) : Post μ0 F0 H0 μ F (upd H a o) :=
  ⟨p.subF, p.new, fun b u h nb => by rw [upd_ne (ne_of_none h n)]; exact p.keep b u h nb, p.ext, fun b u h => by
    obtain ⟨u', h'⟩ := p.there b u h
    exact ⟨u', by rw [upd_ne (ne_of_none h n)]; exact h'⟩⟩
/-- the state at a comprehension's turn i -/
def CompW (G : Gs) (g : D → Env → Option Env) (t : Env → M Bool) (e : Env → M D) (ρ : Env) (ds : List D) (μ : List Addr) (F H : Hp) (A : Addr) (Q : VK) (i : Nat) (H1 : Hp) : Prop :=
  i ≤ ds.length ∧ ∃ μ1 F1 st1 as vas, Post μ F H μ1 F1 H1 ∧ StOk G μ1 F1 H1 st1 ∧ A ∉ μ1 ∧ F1 A = none ∧ H1 A = some (.lst vas) ∧ RpL G μ1 F1 as vas ∧ as.length ≤ i ∧
    (compD g t e ρ (ds.drop i)).gives st1 fun rs st' => ∀ μ' F' H', Post μ F H μ' F' H' → StOk G μ' F' H' st' → RK G .fre H μ' F' H' (.lst (as ++ rs)) (.ref A) → Q (.ref A) H'
theorem ObjAt.lstmut {G : Gs} {μ : List Addr} {F H : Hp} {a b : Addr} {xs : List V} {o : HO} {d : D} (h : ObjAt G μ F H b d) (ha : H a = some (.lst xs)) (ne : b ≠ a) : ObjAt G μ F (upd H a o) b d := by
  cases d <;> try exact h.elim
  · obtain ⟨f, z, vs, e, r⟩ := h
    exact ⟨f, z, vs, by rw [upd_ne ne]; exact e, r⟩
  · obtain ⟨f, z, L, e, r⟩ := h
    exact ⟨f, z, L, by rw [upd_ne ne]; exact e, r⟩
  · obtain ⟨f, C, dx, fv, e1, e2, n2, f2, c, r⟩ := h
    exact ⟨f, C, dx, fv, by rw [upd_ne ne]; exact e1, by rw [upd_ne (show dx ≠ a from fun q => by subst q; rw [ha] at e2; cases e2)]; exact e2, n2, f2, c, r⟩
  · obtain ⟨f, z, L, e, r⟩ := h
    exact ⟨f, z, L, by rw [upd_ne ne]; exact e, r⟩
theorem StOk.lstmut {G : Gs} {μ : List Addr} {F H : Hp} {st : Sto} {a : Addr} {xs : List V} {o : HO} (s : StOk G μ F H st) (ha : H a = some (.lst xs)) (na : a ∉ μ) (fa : F a = none) : StOk G μ F (upd H a o) st :=
  ⟨s.sub.addR fa, s.len, s.nd, fun l b d hl hd => (s.obj l b d hl hd).lstmut ha fun q => na (q ▸ List.mem_of_getElem? hl)⟩
theorem comp_run {g : D → Env → Option Env} {t : Env → M Bool} {e : Env → M D} {gt : TG} {tt : TT} {te : TE} {ns vs : List Nat} (hv : ∀ i ∈ ns, i ∈ vs)
    (hg : ∀ v σ H Q, tG (gs X cl) md ns g v σ H Q → gt v σ H Q) (ht : ∀ σ H Q, tKB (gs X cl) md t σ H Q → tt σ H Q) (he : ∀ σ H Q, tK (gs X cl) md .val e σ H Q → te σ H Q)
    {J : It} {K : List Addr → Hp → Hp → Prop} {ds : List D} (hJ : ItOk (gs X cl) J K ds) {σ : L2.St} {ρ : Env} {μ : List Addr} {F H : Hp} {st : Sto} {A : Addr} {Q : VK}
    (hE : EnvOk (gs X cl) md μ F H ρ σ) (hS : StOk (gs X cl) μ F H st) (hK : K μ F H) (nA : H A = none)
    (w : (compD g t e (wipeE ρ vs) ds).gives st fun rs st' => ∀ μ' F' H', Post μ F H μ' F' H' → StOk (gs X cl) μ' F' H' st' → RK (gs X cl) .fre H μ' F' H' (.lst rs) (.ref A) → Q (.ref A) H') :
    ∃ W : Nat → Nat → Hp → Prop, (∃ m, W 0 m (upd H A (.lst []))) ∧ ∀ i m H, W i m H →
      (J.stop i H ∧ Q (.ref A) H) ∨ (J.go i H ∧ ∃ Nx : Hp → Prop, (∀ H', Nx H' → ∃ m', m' < m ∧ W (i + 1) m' H') ∧ ∀ x H', J.yld i H x H' → gt x (wipe σ vs) H' fun σ2 H2 => wipe σ2 vs = wipe σ vs ∧ tt σ2 H2 fun b H3 =>
        if b = true then te σ2 H3 fun y H4 => ∃ acc, H4 A = some (.lst acc) ∧ acc.length < sizeLine ∧ Nx (upd H4 A (.lst (acc ++ [y]))) else Nx H3) := by
  refine ⟨fun i m H1 => m = ds.length - i ∧ CompW (gs X cl) g t e (wipeE ρ vs) ds μ F H A Q i H1,
    ⟨ds.length, by simp, Nat.zero_le _, μ, F, st, [], [], Post.refl.alloc nA, hS.alloc nA, hS.notin nA, hS.sub.free nA, upd_same, rfl, Nat.le_refl _, by simpa using w⟩, ?_⟩
  rintro i m H1 ⟨rfl, hi, μ1, F1, st1, as, vas, p1, s1, nμ, fA, hA, rA, hl, w1⟩
  have k1 := hJ.keep _ _ _ _ _ _ hK p1
  by_cases hlt : i < ds.length
  · refine .inr ⟨hJ.go i _ _ _ k1 s1.sub hlt, CompW (gs X cl) g t e (wipeE ρ vs) ds μ F H A Q (i + 1), fun H' q => ⟨ds.length - (i + 1), by omega, rfl, q⟩, fun x H2 hy => ?_⟩
    have hd : ds[i]? = some ds[i] := List.getElem?_eq_getElem hlt
    obtain ⟨F2, p2, s2, r2⟩ := hJ.yld i _ _ _ x H2 ds[i] st1 k1 s1 hd hy
    rw [List.drop_eq_getElem_cons hlt] at w1
    unfold compD at w1
    cases eg : g ds[i] (wipeE ρ vs) with
    | none => rw [eg] at w1; exact w1.elim
    | some ρ1 =>
      rw [eg] at w1
      simp only at w1
      refine hg x _ H2 _ ⟨wipeE ρ vs, μ1, F2, ds[i], ρ1, (hE.post (p1.trans p2)).wipe vs, s2.sub, r2, eg, fun σ2 hE2 hl2 hσ2 => ?_⟩
      have ws : wipe σ2 vs = wipe (wipe σ vs) vs := wipe_same hl2 fun j hj => (hσ2 j fun q => hj (hv j q)).1
      have ww : wipe (wipe σ vs) vs = wipe σ vs := wipe_same (wipe_length σ vs) fun j hj => wipe_out hj
      refine ⟨ws.trans ww, ht σ2 H2 _ ⟨ρ1, μ1, F2, st1, hE2, s2, ?_⟩⟩
      rw [M.gives_bind] at w1
      have hA2 : H2 A = some (.lst vas) := p2.keep _ _ hA nμ
      have fA2 : F2 A = none := p2.unfrz hA fA
      refine M.gives_mono w1 fun b st2 w2 μ3 F3 H3 p3 s3 => ?_
      have hA3 : H3 A = some (.lst vas) := p3.keep _ _ hA2 nμ
      have n3 : A ∉ μ3 := p3.notin hA2 nμ
      have fA3 : F3 A = none := p3.unfrz hA2 fA2
      cases b with
      | false =>
        dsimp only at w2 ⊢
        rw [if_neg Bool.false_ne_true] at w2 ⊢
        exact ⟨hlt, μ3, F3, st2, as, vas, p1.trans (p2.trans p3), s3, n3, fA3, hA3, RpL.post (p2.trans p3) rA, by omega, w2⟩
      | true =>
        dsimp only at w2 ⊢
        rw [if_pos rfl] at w2 ⊢
        refine he σ2 H3 _ ⟨ρ1, μ3, F3, st2, hE2.post p3, s3, ?_⟩
        rw [M.gives_bind] at w2
        refine M.gives_mono w2 fun y st3 w3 v μ4 F4 H4 p4 s4 r4 => ?_
        have hA4 : H4 A = some (.lst vas) := p4.keep _ _ hA3 n3
        have n4 : A ∉ μ4 := p4.notin hA3 n3
        have fA4 : F4 A = none := p4.unfrz hA3 fA3
        have pall := p1.trans (p2.trans (p3.trans p4))
        rw [M.gives_bind] at w3
        have hz := hJ.len
        refine ⟨vas, hA4, by rw [rpl_len rA]; omega, hlt, μ4, F4, st3, as ++ [y], vas ++ [v], pall.lstmut nA, s4.lstmut hA4 n4 fA4, n4, fA4, upd_same, rpl_snoc (RpL.post (p2.trans (p3.trans p4)) rA) r4, by simp; omega, ?_⟩
        refine M.gives_mono w3 fun rs st5 w5 μ5 F5 H5 p5 s5 r5 => ?_
        exact w5 μ5 F5 H5 p5 s5 (by simpa using r5)
  · have ei : i = ds.length := by omega
    subst ei
    refine .inl ⟨hJ.stop _ _ _ _ k1 s1.sub (Nat.le_refl _), ?_⟩
    rw [List.drop_length] at w1
    have hz := hJ.len
    exact w1 μ1 F1 H1 p1 s1 ⟨A, rfl, nA, (fun C dx fv h => by rw [hA] at h; cases h), nμ, fA, by simp; omega, vas, hA, by simpa using rA⟩
theorem sk_comp {elt tg iter : Expr} {ifs : List Expr} {scope : Scope} {pos : Pos} {own : List (Str × Nat)} {ns : List Nat} {mi : Env → M (List D)} {g : D → Env → Option Env} {t : Env → M Bool} {e : Env → M D} (hc : X.calm = true) (hN : X.N.Nodup)
    (ok : blkC X.N X.env.scope scope own = true) (hv : ∀ i ∈ ns, i ∈ own.map (·.2)) (hi : SI cl md X tg iter mi) (hg : Blk X scope fun Y => SG cl md Y ns tg g) (ht : Blk X scope fun Y => PTs Y ifs (tKB (gs X cl) md t)) (he : Blk X scope fun Y => SK cl md Y .val elt e)
    (hs : ∀ x, foldedSetIterable iter X.env x = pure x := by intro _; rfl) : SK cl md X .fre (.ListComp elt [⟨tg, iter, ifs, 0⟩] scope pos) (fun ρ => do let ds ← mi ρ; let rs ← compD g t e (wipeE ρ (own.map (·.2))) ds; pure (.lst rs)) :=
  PE.mono (pe_lc (g := tG (gs X cl) md ns g) (tt := tKB (gs X cl) md t) (te := tK (gs X cl) md .val e) hc hN hi (blkOk_by ok) (fun s H C cc fp => hg s H C cc fp) (fun s H C cc fp => ht s H C cc fp) (fun s H C cc fp => he s H C cc fp) hs) fun σ H Q ⟨ρ, μ, F, st, hE, hS, w⟩ => by
    refine ⟨ρ, μ, F, st, hE, hS, ?_⟩
    rw [M.gives_bind] at w
    refine M.gives_mono w fun ds st1 w1 J K μ1 F1 H1 p1 s1 hJ hK A nA => ?_
    refine comp_run hv (fun _ _ _ _ q => q) (fun _ _ _ q => q) (fun _ _ _ q => q) hJ (hE.post p1) s1 hK nA ?_
    rw [M.gives_bind] at w1
    exact M.gives_mono w1 fun rs st2 w2 μ' F' H' p2 s2 r2 => w2 _ μ' F' H' (p1.trans p2) s2 (r2.base fun _ n => p1.free n)
end
end Sh
namespace Sh
open PySem PySem.Spec PyProof.Rows L2

inductive Fl where
  | nx | bk | ct
  | rt (d : D)
/-- the state at a def's entry; how its result is to lie -/
structure Bs where
  μ : List Addr
  F : Hp
  H : Hp
  rk : Kd
/-- the state within a def's body -/
structure Sit (G : Gs) (md : List Md) (B : Bs) (ρ : Env) (σ : L2.St) (μ : List Addr) (F H : Hp) (st : Sto) : Prop where
  env : EnvOk G md μ F H ρ σ
  sto : StOk G μ F H st
  post : Post B.μ B.F B.H μ F H
  fre : ∀ (i : Nat) (d : D) (a : Addr), md[i]? = some .own → ρ[i]? = some (some d) → σ[i]? = some (some (.ref a)) → B.H a = none ∧ ∀ C dx fv, H a = some (.ins C dx fv) → B.H dx = none
theorem Sit.step {G : Gs} {md : List Md} {B : Bs} {ρ : Env} {σ : L2.St} {μ μ' : List Addr} {F F' H H' : Hp} {st st' : Sto} (s : Sit G md B ρ σ μ F H st) (p : Post μ F H μ' F' H') (q : StOk G μ' F' H' st') : Sit G md B ρ σ μ' F' H' st' := by
  refine ⟨s.env.post p, q, s.post.trans p, fun i d a e1 e2 e3 => ?_⟩
  obtain ⟨f1, f2⟩ := s.fre i d a e1 e2 e3
  refine ⟨f1, fun C dx fv h => ?_⟩
  obtain ⟨_, _, α, h2, h3, h4⟩ := s.env
  obtain ⟨v, ev, z⟩ := h2 i .own d e1 e2
  rw [e3] at ev; cases ev
  cases hα : α i with
  | none => rw [hα] at z; exact absurd rfl z.1
  | some b =>
    rw [hα] at z
    obtain ⟨z1, _, z2⟩ := z
    cases z1
    obtain ⟨o, ho⟩ := z2.2.ex
    have := p.keep a o ho z2.1
    rw [h] at this; cases this
    exact f2 C dx fv ho
def WantS (G : Gs) (md : List Md) (B : Bs) (μ : List Addr) (F : Hp) (D : Ends) : Fl × Env → Sto → Prop := fun r st' => match r.1 with
  | .nx => ∀ σ' μ' F' H', Sit G md B r.2 σ' μ' F' H' st' → Sub F F' → Ext μ μ' → D.nx σ' H'
  | .bk => ∀ σ' μ' F' H', Sit G md B r.2 σ' μ' F' H' st' → Sub F F' → Ext μ μ' → D.bk σ' H'
  | .ct => ∀ σ' μ' F' H', Sit G md B r.2 σ' μ' F' H' st' → Sub F F' → Ext μ μ' → D.ct σ' H'
  | .rt d => ∀ v μ' F' H', Post B.μ B.F B.H μ' F' H' → StOk G μ' F' H' st' → RK G B.rk B.H μ' F' H' d v → D.rt v H'
theorem WantS.after {G : Gs} {md : List Md} {B : Bs} {μ μ1 : List Addr} {F F1 : Hp} {D : Ends} {r : Fl × Env} {st : Sto} (h1 : Sub F F1) (h2 : Ext μ μ1) (w : WantS G md B μ F D r st) : WantS G md B μ1 F1 D r st := by
  obtain ⟨f, ρ⟩ := r
  cases f
  · exact fun σ' μ' F' H' s a b => w σ' μ' F' H' s (h1.trans a) (h2.trans b)
  · exact fun σ' μ' F' H' s a b => w σ' μ' F' H' s (h1.trans a) (h2.trans b)
  · exact fun σ' μ' F' H' s a b => w σ' μ' F' H' s (h1.trans a) (h2.trans b)
  · exact w
abbrev MS := Env → M (Fl × Env)
def tS (G : Gs) (md : List Md) (B : Bs) (m : MS) : TS := fun D σ H => ∃ ρ μ F st, Sit G md B ρ σ μ F H st ∧ (m ρ).gives st (WantS G md B μ F D)
def SS (cl : String → Option Addr) (md : List Md) (B : Bs) (X : Cx) (s : Stmt) (m : MS) : Prop := PS X s (tS (gs X cl) md B m)
def SSs (cl : String → Option Addr) (md : List Md) (B : Bs) (X : Cx) (s : List Stmt) (m : MS) : Prop := PSs X s (tS (gs X cl) md B m)
theorem PS.mono {X : Cx} {e : Stmt} {t t' : TS} (h : PS X e t) (i : ∀ D σ H, t' D σ H → t D σ H) : PS X e t' := ⟨fun pins s σ H D I q => h.run pins s σ H D I (i D σ H q)⟩
theorem PSs.mono {X : Cx} {e : List Stmt} {t t' : TS} (h : PSs X e t) (i : ∀ D σ H, t' D σ H → t D σ H) : PSs X e t' := ⟨fun pins s σ H D I q => h.run pins s σ H D I (i D σ H q)⟩

section
variable {cl : String → Option Addr} {md : List Md} {B : Bs} {X : Cx}
def skipS : MS := fun ρ => pure (.nx, ρ)
def seqS (m n : MS) : MS := fun ρ => do
  let r ← m ρ
  match r.1 with
  | .nx => n r.2
  | _ => pure r
theorem ss_nil : SSs cl md B X [] skipS := PSs.mono pss_nil fun D σ H ⟨ρ, μ, F, st, s, w⟩ => w σ μ F H s (Sub.refl _) (Ext.refl _)
theorem ss_cons {s : Stmt} {r : List Stmt} {m n : MS} (h : SS cl md B X s m) (hr : SSs cl md B X r n) : SSs cl md B X (s :: r) (seqS m n) := PSs.mono (pss_cons h hr) fun D σ H ⟨ρ, μ, F, st, s, w⟩ => by
  refine ⟨ρ, μ, F, st, s, ?_⟩
  unfold seqS at w
  rw [M.gives_bind] at w
  refine M.gives_mono w fun r st1 w1 => ?_
  obtain ⟨f, ρ1⟩ := r
  cases f
  · exact fun σ' μ' F' H' s' a b => ⟨ρ1, μ', F', st1, s', M.gives_mono w1 fun r2 st2 w2 => w2.after a b⟩
  · exact w1
  · exact w1
  · exact w1
theorem ss_one {s : Stmt} {m : MS} (h : SS cl md B X s m) : SSs cl md B X [s] m := PSs.mono (pss_one h) fun _ _ _ q => q
theorem ss_pass {pos : Pos} : SS cl md B X (.Pass pos) skipS := PS.mono ps_pass fun D σ H ⟨ρ, μ, F, st, s, w⟩ => w σ μ F H s (Sub.refl _) (Ext.refl _)
theorem ss_break {pos : Pos} : SS cl md B X (.Break pos) (fun ρ => pure (.bk, ρ)) := PS.mono ps_break fun D σ H ⟨ρ, μ, F, st, s, w⟩ => w σ μ F H s (Sub.refl _) (Ext.refl _)
theorem ss_continue {pos : Pos} : SS cl md B X (.Continue pos) (fun ρ => pure (.ct, ρ)) := PS.mono ps_continue fun D σ H ⟨ρ, μ, F, st, s, w⟩ => w σ μ F H s (Sub.refl _) (Ext.refl _)
/-- what is never reached -/
theorem ss_never {s : Stmt} : SS cl md B X s (fun _ => M.bad) := PS.mono ps_never fun D σ H ⟨ρ, μ, F, st, s, w⟩ => w
def exprS (m : Env → M D) : MS := fun ρ => do let _ ← m ρ; pure (.nx, ρ)
theorem ss_expr {k : Kd} {e : Expr} {pos : Pos} {m : Env → M D} (h : SK cl md X k e m) (hs : swapsWith e none pos.line X.env = pure false := by rfl) : SS cl md B X (.Expr e pos) (exprS m) := PS.mono (ps_expr h hs) fun D σ H ⟨ρ, μ, F, st, s, w⟩ => by
  refine ⟨ρ, μ, F, st, s.env, s.sto, ?_⟩
  unfold exprS at w
  rw [M.gives_bind] at w
  exact M.gives_mono w fun d st1 w1 v μ1 F1 H1 p1 s1 r1 => w1 σ μ1 F1 H1 (s.step p1 s1) p1.subF p1.mu
theorem ss_doc {x : Str} {j : Nat} {pos pos' : Pos} : SS cl md B X (.Expr (.Constant (.str x) j pos) pos') skipS := PS.mono ps_doc fun D σ H ⟨ρ, μ, F, st, s, w⟩ => w σ μ F H s (Sub.refl _) (Ext.refl _)
def ifS (c : Env → M Bool) (a b : MS) : MS := fun ρ => do
  let t ← c ρ
  if t = true then a ρ else b ρ
theorem ss_if {c : Expr} {a b : List Stmt} {pos : Pos} {mc : Env → M Bool} {ma mb : MS} (hc : ST cl md X c mc) (ha : SSs cl md B X a ma) (hb : SSs cl md B X b mb) : SS cl md B X (.If c a b pos) (ifS mc ma mb) := PS.mono (ps_if hc ha hb) fun D σ H ⟨ρ, μ, F, st, s, w⟩ => by
  refine ⟨ρ, μ, F, st, s.env, s.sto, ?_⟩
  unfold ifS at w
  rw [M.gives_bind] at w
  refine M.gives_mono w fun t st1 w1 μ1 F1 H1 p1 s1 => ?_
  cases t
  · rw [if_neg Bool.false_ne_true] at w1 ⊢
    exact ⟨ρ, μ1, F1, st1, s.step p1 s1, M.gives_mono w1 fun r st2 w2 => w2.after p1.subF p1.mu⟩
  · rw [if_pos rfl] at w1 ⊢
    exact ⟨ρ, μ1, F1, st1, s.step p1 s1, M.gives_mono w1 fun r st2 w2 => w2.after p1.subF p1.mu⟩
/-- return -/
def retS (m : Env → M D) : MS := fun ρ => do let d ← m ρ; pure (.rt d, ρ)
theorem ss_ret {e : Expr} {pos : Pos} {m : Env → M D} (h : SK cl md X B.rk e m) : SS cl md B X (.Return (some e) pos) (retS m) := PS.mono (ps_ret h) fun D σ H ⟨ρ, μ, F, st, s, w⟩ => by
  refine ⟨ρ, μ, F, st, s.env, s.sto, ?_⟩
  unfold retS at w
  rw [M.gives_bind] at w
  exact M.gives_mono w fun d st1 w1 v μ1 F1 H1 p1 s1 r1 => w1 v μ1 F1 H1 (s.post.trans p1) s1 (r1.base fun _ n => s.post.free n)
/-- return x, x a container of one's own: it is handed over -/
theorem ss_retOwn (i : Nat) {x : Str} {p pos : Pos} (hk : B.rk = .fre) (hm : md[i]? = some .own := by rfl) (hN : X.N[i]? = some x := by rfl) (hv : Vis X.env.scope x := by first | exact Or.inl rfl | exact Or.inr (Or.inl rfl) | exact Or.inr (Or.inr rfl)) (hd : (x == ("__debug__" : Str)) = false := by decide)
    (hcd : (x == ("__classdict__" : Str)) = false := by decide) : SS cl md B X (.Return (some (.Name x p)) pos) (retS fun ρ => getV ρ i) := PS.mono (ps_ret (pe_var hN hv hd hcd)) fun D σ H ⟨ρ, μ, F, st, s, w⟩ => by
  unfold retS at w
  rw [M.gives_bind] at w
  obtain ⟨d, e, w⟩ := getV_gives w
  obtain ⟨h0, h1, α, h2, h3, h4⟩ := s.env
  obtain ⟨v, ev, q⟩ := h2 i .own d hm e
  refine ⟨v, ev, ?_⟩
  cases ha : α i with
  | none => rw [ha] at q; exact absurd rfl q.1
  | some a =>
    rw [ha] at q
    obtain ⟨q1, _, q2⟩ := q
    subst q1
    obtain ⟨f1, f2⟩ := s.fre i d a hm e ev
    exact w (.ref a) μ F H s.post s.sto (by rw [hk]; exact ⟨a, rfl, f1, f2, q2⟩)
/-- .. it is frozen -/
theorem ss_retFrz (i : Nat) {x : Str} {p pos : Pos} (hk : B.rk = .val) (hm : md[i]? = some .own := by rfl) (hN : X.N[i]? = some x := by rfl) (hv : Vis X.env.scope x := by first | exact Or.inl rfl | exact Or.inr (Or.inl rfl) | exact Or.inr (Or.inr rfl)) (hd : (x == ("__debug__" : Str)) = false := by decide)
    (hcd : (x == ("__classdict__" : Str)) = false := by decide) : SS cl md B X (.Return (some (.Name x p)) pos) (retS fun ρ => getV ρ i) := PS.mono (ps_ret (pe_var hN hv hd hcd)) fun D σ H ⟨ρ, μ, F, st, s, w⟩ => by
  unfold retS at w
  rw [M.gives_bind] at w
  obtain ⟨d, e, w⟩ := getV_gives w
  obtain ⟨h0, h1, α, h2, h3, h4⟩ := s.env
  obtain ⟨v, ev, q⟩ := h2 i .own d hm e
  refine ⟨v, ev, ?_⟩
  cases ha : α i with
  | none => rw [ha] at q; exact absurd rfl q.1
  | some a =>
    rw [ha] at q
    obtain ⟨q1, _, q2⟩ := q
    subst q1
    obtain ⟨f1, f2⟩ := s.fre i d a hm e ev
    obtain ⟨F2, p2, s2, r2⟩ := freeze s.post s.sto ⟨a, rfl, f1, f2, q2⟩
    exact w (.ref a) μ F2 H p2 s2 (by rw [hk]; exact r2)
theorem ss_retN {pos : Pos} (hk : B.rk = .val) : SS cl md B X (.Return none pos) (fun ρ => pure (.rt .non, ρ)) := PS.mono ps_retN fun D σ H ⟨ρ, μ, F, st, s, w⟩ => w .non μ F H s.post s.sto (by rw [hk]; exact rfl)
/-- x = e, x a value -/
def setS (i : Nat) (m : Env → M D) : MS := fun ρ => do let d ← m ρ; pure (.nx, ρ.set i (some d))
theorem Sit.setV {G : Gs} {ρ : Env} {σ : L2.St} {μ : List Addr} {F H : Hp} {st : Sto} {i : Nat} {d : D} {v : V} (s : Sit G md B ρ σ μ F H st) (hm : md[i]? = some .val) (r : Rp G μ F d v) : Sit G md B (ρ.set i (some d)) (σ.set i (some v)) μ F H st :=
  ⟨s.env.setV hm r, s.sto, s.post, fun j e a e1 e2 e3 => by
    have hj : i ≠ j := fun q => by subst q; rw [hm] at e1; cases e1
    rw [List.getElem?_set_ne hj] at e2 e3
    exact s.fre j e a e1 e2 e3⟩
theorem ss_set (i : Nat) {x : Str} {e : Expr} {pos' pos : Pos} {m : Env → M D} (hN : X.N.Nodup) (h : SK cl md X .val e m) (hm : md[i]? = some .val := by rfl) (hi : X.N[i]? = some x := by rfl) (hx : Loc X.env.scope x := by first | exact Or.inl rfl | exact Or.inr rfl)
    (hs : swapsWith e (some (.Name x pos')) pos.line X.env = pure false := by rfl) (hf : X.fn x = true ∨ X.env.scope.names.lookup x = some .local := by first | exact .inl rfl | exact .inr rfl | assumption) : SS cl md B X (.Assign [.Name x pos'] e pos) (setS i m) :=
  PS.mono (ps_set hN hi hx h hs hf) fun D σ H ⟨ρ, μ, F, st, s, w⟩ => by
    refine ⟨ρ, μ, F, st, s.env, s.sto, ?_⟩
    unfold setS at w
    rw [M.gives_bind] at w
    exact M.gives_mono w fun d st1 w1 v μ1 F1 H1 p1 s1 r1 => w1 _ μ1 F1 H1 ((s.step p1 s1).setV hm r1) p1.subF p1.mu
theorem EnvOk.setO {G : Gs} {ρ : Env} {σ : L2.St} {μ μ1 : List Addr} {F F1 H H1 : Hp} {i : Nat} {d : D} {a : Addr} (h : EnvOk G md μ1 F1 H1 ρ σ) (p : Post μ1 F1 H1 μ F H) (n : H1 a = none) (hm : md[i]? = some .own) (o : OwnAt G μ F H a d) :
    EnvOk G md μ F H (ρ.set i (some d)) (σ.set i (some (.ref a))) := by
  obtain ⟨h0, h1, α, h2, h3, h4⟩ := id h
  obtain ⟨_, _, α', h2', h3', h4'⟩ := h.post p
  have hi : i < md.length := (List.getElem?_eq_some_iff.mp hm).1
  have hr : i < ρ.length := by rw [← h1]; exact hi
  have hs : i < σ.length := by rw [← h0]; exact hr
  refine ⟨by simp [h0], by simp [h1], fun j => if j = i then some a else α j, fun j m e e1 e2 => ?_, fun j k b e1 e2 ne => ?_, fun j e2 => ?_⟩
  · by_cases hj : i = j
    · subst hj
      rw [List.getElem?_set_self hr] at e2; cases e2
      rw [hm] at e1; cases e1
      exact ⟨.ref a, List.getElem?_set_self hs, by simp only [if_pos rfl]; exact ⟨rfl, by decide, o⟩⟩
    · rw [List.getElem?_set_ne hj] at e2 ⊢
      obtain ⟨v, e3, z⟩ := h2 j m e e1 e2
      refine ⟨v, e3, ?_⟩
      simp only [if_neg (Ne.symm hj)]
      cases hα : α j with
      | none => rw [hα] at z; exact ⟨z.1, z.2.post p⟩
      | some b =>
        rw [hα] at z
        exact ⟨z.1, z.2.1, z.2.2.post p⟩
  · simp only at e1 e2
    have fresh : ∀ l c, α l = some c → c ≠ a := fun l c q z => by
      subst z
      cases hq : md[l]? with
      | none =>
        have : l < ρ.length ∨ ¬ l < ρ.length := Classical.em _
        have hl : ¬ l < md.length := fun q => by rw [List.getElem?_eq_getElem q] at hq; cases hq
        have := h4 l (fun d z => by
          have := (List.getElem?_eq_some_iff.mp z).1
          omega)
        rw [q] at this; cases this
      | some m =>
        by_cases qe : ∃ e, ρ[l]? = some (some e)
        · obtain ⟨e, qe⟩ := qe
          obtain ⟨v, _, z⟩ := h2 l m e hq qe
          rw [q] at z
          obtain ⟨ob, hob⟩ := z.2.2.2.ex
          rw [n] at hob; cases hob
        · have := h4 l fun d z => qe ⟨_, z⟩
          rw [q] at this; cases this
    split at e1
    · cases e1
      split at e2
      · omega
      · exact absurd rfl (fresh k a e2)
    · split at e2
      · cases e2
        exact absurd rfl (fresh j a e1)
      · exact h3 j k b e1 e2 ne
  · simp only
    split
    · rename_i hj
      subst hj
      exact absurd (List.getElem?_set_self hr) (e2 d)
    · rename_i hj
      exact h4 j fun d z => e2 d (by rw [List.getElem?_set_ne (fun q => hj q.symm)]; exact z)
end
end Sh
namespace Sh
open PySem PySem.Spec PyProof.Rows L2

section
variable {cl : String → Option Addr} {md : List Md} {B : Bs} {X : Cx}
/-! ### x = e, x a container of one's own -/
theorem ss_setOwn (i : Nat) {x : Str} {e : Expr} {pos' pos : Pos} {m : Env → M D} (hN : X.N.Nodup) (h : SK cl md X .fre e m) (hm : md[i]? = some .own := by rfl) (hi : X.N[i]? = some x := by rfl) (hx : Loc X.env.scope x := by first | exact Or.inl rfl | exact Or.inr rfl)
    (hs : swapsWith e (some (.Name x pos')) pos.line X.env = pure false := by rfl) (hf : X.fn x = true ∨ X.env.scope.names.lookup x = some .local := by first | exact .inl rfl | exact .inr rfl | assumption) : SS cl md B X (.Assign [.Name x pos'] e pos) (setS i m) :=
  PS.mono (ps_set hN hi hx h hs hf) fun D σ H ⟨ρ, μ, F, st, s, w⟩ => by
    refine ⟨ρ, μ, F, st, s.env, s.sto, ?_⟩
    unfold setS at w
    rw [M.gives_bind] at w
    refine M.gives_mono w fun d st1 w1 v μ1 F1 H1 p1 s1 r1 => ?_
    obtain ⟨a, rfl, n, z, o⟩ := r1
    have s' := s.step p1 s1
    have hr : i < ρ.length := by rw [← s.env.mdl]; exact (List.getElem?_eq_some_iff.mp hm).1
    have hs : i < σ.length := by rw [← s.env.len]; exact hr
    refine w1 _ μ1 F1 H1 ⟨s.env.setO p1 n hm o, s1, s'.post, fun j e b e1 e2 e3 => ?_⟩ p1.subF p1.mu
    by_cases hj : i = j
    · subst hj
      rw [List.getElem?_set_self hs] at e3; cases e3
      exact ⟨s.post.free n, fun C dx fv q => s.post.free (z C dx fv q)⟩
    · rw [List.getElem?_set_ne hj] at e2 e3
      exact s'.fre j e b e1 e2 e3

/-! ### a container of one's own is changed -/
/-- two things of unlike kinds, or one with other content, may stand at a: what leans on the object at a alone is changed -/
theorem ObjAt.mut {G : Gs} {μ : List Addr} {F H : Hp} {a b : Addr} {u o : HO} {d : D} (h : ObjAt G μ F H b d) (ha : H a = some u) (no : ∀ x, u ≠ .own x) (ne : b ≠ a) : ObjAt G μ F (upd H a o) b d := by
  cases d <;> try exact h.elim
  · obtain ⟨f, z, vs, e, r⟩ := h
    exact ⟨f, z, vs, by rw [upd_ne ne]; exact e, r⟩
  · obtain ⟨f, z, L, e, r⟩ := h
    exact ⟨f, z, L, by rw [upd_ne ne]; exact e, r⟩
  · obtain ⟨f, C, dx, fv, e1, e2, n2, f2, c, r⟩ := h
    exact ⟨f, C, dx, fv, by rw [upd_ne ne]; exact e1, by rw [upd_ne (show dx ≠ a from fun q => by subst q; rw [ha] at e2; exact no _ (Option.some.inj e2))]; exact e2, n2, f2, c, r⟩
  · obtain ⟨f, z, L, e, r⟩ := h
    exact ⟨f, z, L, by rw [upd_ne ne]; exact e, r⟩
theorem Sit.mut {G : Gs} {ρ : Env} {σ : L2.St} {μ : List Addr} {F H : Hp} {st : Sto} {i : Nat} {a : Addr} {d d' : D} {u o : HO} (s : Sit G md B ρ σ μ F H st) (hm : md[i]? = some .own) (hd : ρ[i]? = some (some d)) (hv : σ[i]? = some (some (.ref a)))
    (hu : H a = some u) (nu : ∀ x, u ≠ .own x) (new : ObjAt G μ F (upd H a o) a d') (kd : ∀ C dx fv, o = .ins C dx fv → ∃ fv', u = .ins C dx fv') : Sit G md B (ρ.set i (some d')) σ μ F (upd H a o) st := by
  obtain ⟨h0, h1, α, h2, h3, h4⟩ := id s.env
  obtain ⟨v, ev, q⟩ := h2 i .own d hm hd
  rw [hv] at ev; cases ev
  obtain ⟨f1, f2⟩ := s.fre i d a hm hd hv
  have hr : i < ρ.length := (List.getElem?_eq_some_iff.mp hd).1
  cases hα : α i with
  | none => rw [hα] at q; exact absurd rfl q.1
  | some b =>
    rw [hα] at q
    obtain ⟨q1, _, na, oa⟩ := q
    cases q1
    have fa : F a = none := new.frz
    refine ⟨⟨by simp [h0], by simp [h1], α, fun j m e e1 e2 => ?_, h3, fun j e2 => ?_⟩, ⟨s.sto.sub.addR fa, s.sto.len, s.sto.nd, fun l c e hl he => (s.sto.obj l c e hl he).mut hu nu fun q => na (q ▸ List.mem_of_getElem? hl)⟩, s.post.lstmut f1, fun j e c e1 e2 e3 => ?_⟩
    · by_cases hj : i = j
      · subst hj
        rw [List.getElem?_set_self hr] at e2; cases e2
        rw [hm] at e1; cases e1
        exact ⟨.ref a, hv, by rw [hα]; exact ⟨rfl, by decide, na, new⟩⟩
      · rw [List.getElem?_set_ne hj] at e2
        obtain ⟨v, e3, z⟩ := h2 j m e e1 e2
        refine ⟨v, e3, ?_⟩
        cases hβ : α j with
        | none => rw [hβ] at z; exact z
        | some c =>
          rw [hβ] at z
          have nc : c ≠ a := fun q => by subst q; exact h3 i j c hα hβ hj hm
          exact ⟨z.1, z.2.1, z.2.2.1, z.2.2.2.mut hu nu nc⟩
    · by_cases hj : i = j
      · subst hj
        exact absurd (List.getElem?_set_self hr) (e2 d')
      · exact h4 j fun e z => e2 e (by rw [List.getElem?_set_ne hj]; exact z)
    · by_cases hj : i = j
      · subst hj
        rw [hv] at e3; cases e3
        refine ⟨f1, fun C dx fv q => ?_⟩
        rw [upd_same] at q
        obtain ⟨fv', e⟩ := kd C dx fv (Option.some.inj q)
        exact f2 C dx fv' (by rw [hu, e])
      · rw [List.getElem?_set_ne hj] at e2
        obtain ⟨g1, g2⟩ := s.fre j e c e1 e2 e3
        refine ⟨g1, fun C dx fv q => ?_⟩
        obtain ⟨v, ev, z⟩ := h2 j .own e e1 e2
        rw [e3] at ev; cases ev
        cases hβ : α j with
        | none => rw [hβ] at z; exact absurd rfl z.1
        | some c' =>
          rw [hβ] at z
          cases z.1
          have nc : c ≠ a := fun q => by subst q; exact h3 i j c hα hβ hj hm
          rw [upd_ne nc] at q
          exact g2 C dx fv q
/-- x.append(e) -/
def lstOf : D → M (List D)
  | .lst ds => pure ds
  | _ => M.bad
def appendS (i : Nat) (m : Env → M D) : MS := fun ρ => do
  let x ← getV ρ i
  let xs ← lstOf x
  let d ← m ρ
  if xs.length < 16777216 then pure (.nx, ρ.set i (some (.lst (xs ++ [d])))) else M.bad
theorem lstOf_gives {d : D} {st : Sto} {P : List D → Sto → Prop} (h : (lstOf d).gives st P) : ∃ ds, d = .lst ds ∧ P ds st := by
  cases d <;> first | exact h.elim | exact ⟨_, rfl, h⟩
theorem own_at {G : Gs} {ρ : Env} {σ : L2.St} {μ : List Addr} {F H : Hp} {st : Sto} {i : Nat} {d : D} (s : Sit G md B ρ σ μ F H st) (hm : md[i]? = some .own) (hd : ρ[i]? = some (some d)) : ∃ a, σ[i]? = some (some (.ref a)) ∧ OwnAt G μ F H a d := by
  obtain ⟨h0, h1, α, h2, h3, h4⟩ := s.env
  obtain ⟨v, ev, q⟩ := h2 i .own d hm hd
  cases hα : α i with
  | none => rw [hα] at q; exact absurd rfl q.1
  | some a =>
    rw [hα] at q
    exact ⟨a, by rw [ev, q.1], q.2.2⟩
theorem line_eq {n : Nat} (h : n < 16777216) : n < sizeLine := by rw [sizeLine_eq]; exact h
theorem ite_gives {α : Type} {c : Prop} [Decidable c] {m : M α} {st : Sto} {P : α → Sto → Prop} (h : (if c then m else M.bad).gives st P) : c ∧ m.gives st P := by
  by_cases q : c
  · rw [if_pos q] at h; exact ⟨q, h⟩
  · rw [if_neg q] at h; exact h.elim
/-- a built-in's method with one argument, none -/
def Bm1 (X : Cx) (T : String) (r : V → List V → Hp → VK → Prop) (o : Expr) (n : Str) (apos : Pos) (e : Expr) (cpos : Pos) : Prop := ∀ to t, PE X o to → PA X [e] t → PE X (.Call (.Attribute o n apos) [e] [] cpos) (tBM X.K T r to t)
def Bm0 (X : Cx) (T : String) (r : V → List V → Hp → VK → Prop) (o : Expr) (n : Str) (apos : Pos) (cpos : Pos) : Prop := ∀ to, PE X o to → PE X (.Call (.Attribute o n apos) [] [] cpos) (tBM0 X.K T r to)
theorem sa_one {k : Kd} {e : Expr} {m : Env → M D} (h : SK cl md X k e m) (hst : starEach [e] X.env = [(false, eval e X.env)]) : SA cl md X [k] [e] (fun ρ => do let x ← m ρ; pure [x]) := sa_cons h sa_nil (by rw [hst]; rfl)
theorem tkl_one {k : Kd} {m : Env → M D} {σ : L2.St} {H : Hp} {Q : List V → Hp → Prop} {ρ : Env} {μ : List Addr} {F : Hp} {st : Sto} (hE : EnvOk (gs X cl) md μ F H ρ σ) (hS : StOk (gs X cl) μ F H st)
    (w : (m ρ).gives st fun d st' => ∀ v μ' F' H', Post μ F H μ' F' H' → StOk (gs X cl) μ' F' H' st' → RK (gs X cl) k H μ' F' H' d v → Q [v] H') : tKL (gs X cl) md [k] (fun ρ => do let x ← m ρ; pure [x]) σ H Q := by
  refine ⟨ρ, μ, F, st, hE, hS, ?_⟩
  show M.gives (m ρ >>= fun x => pure [x]) st _
  rw [M.gives_bind]
  refine M.gives_mono w fun d st1 w1 => ?_
  show WantL _ _ _ _ _ _ [d] st1
  intro us μ1 F1 H1 p1 s1 ⟨l1, l2, r1⟩
  match us, l2 with
  | [u], _ => exact w1 u μ1 F1 H1 p1 s1 (r1 0 k d u rfl rfl rfl)
/-- x.append(e) -/
theorem ss_append (i : Nat) {x : Str} {e : Expr} {p apos cpos pos : Pos} {m : Env → M D} (h : SK cl md X .val e m) (hm : md[i]? = some .own := by rfl) (hN : X.N[i]? = some x := by rfl) (hv : Vis X.env.scope x := by first | exact Or.inl rfl | exact Or.inr (Or.inl rfl) | exact Or.inr (Or.inr rfl)) (hd : (x == ("__debug__" : Str)) = false := by decide)
    (hcd : (x == ("__classdict__" : Str)) = false := by decide) (hst : starEach [e] X.env = [(false, eval e X.env)] := by rfl)
    (hb : Bm1 X "list" rAppend (.Name x p) "append" apos e cpos := by intro _ _ ho ha; exact pe_bm PySem.F.plainAttrs_list PySem.F.slot_list_append PySem.F.type_list_append mt_append ho ha)
    (hsw : swapsWith (.Call (.Attribute (.Name x p) "append" apos) [e] [] cpos) none pos.line X.env = pure false := by rfl) : SS cl md B X (.Expr (.Call (.Attribute (.Name x p) "append" apos) [e] [] cpos) pos) (appendS i m) :=
  PS.mono (ps_expr (hb _ _ (pe_var hN hv hd hcd) (sa_one h hst)) hsw) fun D σ H ⟨ρ, μ, F, st, s, w⟩ => by
  unfold appendS at w
  rw [M.gives_bind] at w
  obtain ⟨d0, e0, w⟩ := getV_gives w
  rw [M.gives_bind] at w
  obtain ⟨ds, ed, w2⟩ := lstOf_gives w
  subst ed
  rw [M.gives_bind] at w2
  obtain ⟨a, ea, na, oa⟩ := own_at s hm e0
  obtain ⟨f, z, vs, e1, r⟩ := oa
  refine ⟨.ref a, ea, .inl ⟨rfl, _, .inl (.inl e1)⟩, tkl_one s.env s.sto (M.gives_mono w2 fun d st1 w1 u μ1 F1 H1 p1 s1 ru => ?_)⟩
  obtain ⟨hz, w2⟩ := ite_gives w1
  have e2 : H1 a = some (.lst vs) := p1.keep _ _ e1 na
  refine ⟨a, vs, u, rfl, rfl, e2, by rw [rpl_len r]; exact line_eq hz, ?_⟩
  refine w2 σ μ1 F1 _ ((s.step p1 s1).mut hm e0 ea e2 (fun x q => by cases q) ⟨p1.unfrz e1 f, ?_, _, upd_same, rpl_snoc (RpL.post p1 r) ru⟩ (fun _ _ _ q => by cases q)) p1.subF p1.mu
  rw [List.length_append, sizeLine_eq]
  exact hz

/-! ### while -/
def whileN (c : Env → M Bool) (b : MS) : Nat → MS
  | 0, _ => M.bad
  | n + 1, ρ => do
    let t ← c ρ
    if t = true then do
      let r ← b ρ
      match r.1 with
      | .nx => whileN c b n r.2
      | .ct => whileN c b n r.2
      | .bk => pure (.nx, r.2)
      | .rt d => pure (.rt d, r.2)
    else pure (.nx, ρ)
open Classical in
/-- the loop: as many turns as it takes -/
noncomputable def whileS (c : Env → M Bool) (b : MS) : MS := fun ρ st => if h : ∃ n P, (whileN c b n ρ).gives st P then whileN c b h.choose ρ st else .bad
theorem M.gives_det {α : Type} {m : M α} {st : Sto} {P : α → Sto → Prop} (h : m.gives st P) : ∃ a st', m st = .ok a st' ∧ P a st' := by
  unfold M.gives at h
  cases e : m st with
  | ok a st' => rw [e] at h; exact ⟨a, st', rfl, h⟩
  | exc _ _ => rw [e] at h; exact h.elim
  | bad => rw [e] at h; exact h.elim
theorem M.gives_ok {α : Type} {m : M α} {st st' : Sto} {a : α} {P : α → Sto → Prop} (e : m st = .ok a st') : m.gives st P = P a st' := by
  unfold M.gives; rw [e]
theorem whileS_gives {c : Env → M Bool} {b : MS} {ρ : Env} {st : Sto} {P : Fl × Env → Sto → Prop} (h : (whileS c b ρ).gives st P) : ∃ n, (whileN c b n ρ).gives st P := by
  by_cases q : ∃ n P, (whileN c b n ρ).gives st P
  · have e : whileS c b ρ st = whileN c b q.choose ρ st := by unfold whileS; rw [dif_pos q]
    refine ⟨q.choose, ?_⟩
    unfold M.gives at h ⊢
    rw [e] at h
    exact h
  · have e : whileS c b ρ st = .bad := by unfold whileS; rw [dif_neg q]
    unfold M.gives at h
    rw [e] at h
    exact h.elim
theorem whileN_more {c : Env → M Bool} {b : MS} : ∀ {n m : Nat} {ρ : Env} {st st' : Sto} {r : Fl × Env}, n ≤ m → whileN c b n ρ st = .ok r st' → whileN c b m ρ st = .ok r st'
  | 0, _, _, _, _, _, _, h => by cases h
  | n + 1, 0, _, _, _, _, hl, _ => by omega
  | n + 1, m + 1, ρ, st, st', r, hl, h => by
    have h : M.bind (c ρ) _ st = _ := h
    show M.bind (c ρ) _ st = _
    unfold M.bind at h ⊢
    cases ec : c ρ st with
    | ok t st1 =>
      rw [ec] at h
      simp only at h ⊢
      cases t
      · exact h
      · simp only [if_true] at h ⊢
        have h : M.bind (b ρ) _ st1 = _ := h
        show M.bind (b ρ) _ st1 = _
        unfold M.bind at h ⊢
        cases eb : b ρ st1 with
        | ok r1 st2 =>
          rw [eb] at h
          obtain ⟨f, ρ1⟩ := r1
          cases f
          · exact whileN_more (by omega) h
          · exact h
          · exact whileN_more (by omega) h
          · exact h
        | exc _ _ => rw [eb] at h; exact h
        | bad => rw [eb] at h; exact h
    | exc _ _ => rw [ec] at h; exact h
    | bad => rw [ec] at h; exact h
/-- what n turns give is what the loop gives -/
theorem whileS_eq {c : Env → M Bool} {b : MS} {n : Nat} {ρ : Env} {st st' : Sto} {r : Fl × Env} (h : whileN c b n ρ st = .ok r st') : whileS c b ρ st = .ok r st' := by
  have q : ∃ n P, (whileN c b n ρ).gives st P := ⟨n, fun _ _ => True, by rw [M.gives_ok h]; trivial⟩
  unfold whileS
  rw [dif_pos q]
  obtain ⟨P, hp⟩ := q.choose_spec
  obtain ⟨a, st2, e, _⟩ := M.gives_det hp
  rcases Nat.le_total n q.choose with l | l
  · exact whileN_more l h
  · have := whileN_more l e
    rw [h] at this
    cases this
    exact e
theorem ss_while {c : Expr} {body : List Stmt} {pos : Pos} {mc : Env → M Bool} {mb : MS} (hp : PassesOwn (model X.prog X.w) X.A X.env X.xe) (hc : ST cl md X c mc) (hb : SSs cl md B X body mb) : SS cl md B X (.While c body [] pos) (whileS mc mb) :=
  PS.mono (ps_while hp hc hb) fun D σ H ⟨ρ, μ, F, st, s, w⟩ => by
  obtain ⟨n, w⟩ := whileS_gives w
  refine ⟨fun n σ H => ∃ ρ μ F st, Sit (gs X cl) md B ρ σ μ F H st ∧ (whileN mc mb n ρ).gives st (WantS (gs X cl) md B μ F D), ⟨n, ρ, μ, F, st, s, w⟩, ?_⟩
  rintro n σ H ⟨ρ, μ, F, st, s, w⟩
  cases n with
  | zero => exact w.elim
  | succ n =>
    refine ⟨ρ, μ, F, st, s.env, s.sto, ?_⟩
    unfold whileN at w
    rw [M.gives_bind] at w
    refine M.gives_mono w fun t st1 w1 μ1 F1 H1 p1 s1 => ?_
    cases t
    · simp only [Bool.false_eq_true, if_false] at w1 ⊢
      exact w1 σ μ1 F1 H1 (s.step p1 s1) p1.subF p1.mu
    · simp only [if_true] at w1 ⊢
      refine ⟨_, fun σ' H' q => ⟨n, Nat.lt_succ_self n, q⟩, ρ, μ1, F1, st1, s.step p1 s1, ?_⟩
      rw [M.gives_bind] at w1
      refine M.gives_mono w1 fun r st2 w2 => ?_
      obtain ⟨f, ρ2⟩ := r
      cases f
      · exact fun σ' μ' F' H' s' a b => ⟨ρ2, μ', F', st2, s', M.gives_mono w2 fun r3 st3 w3 => w3.after (p1.subF.trans a) (p1.mu.trans b)⟩
      · exact fun σ' μ' F' H' s' a b => w2 σ' μ' F' H' s' (p1.subF.trans a) (p1.mu.trans b)
      · exact fun σ' μ' F' H' s' a b => ⟨ρ2, μ', F', st2, s', M.gives_mono w2 fun r3 st3 w3 => w3.after (p1.subF.trans a) (p1.mu.trans b)⟩
      · exact w2

/-! ### for -/
def forS (g : D → Env → Option Env) (b : MS) : List D → MS
  | [], ρ => pure (.nx, ρ)
  | x :: xs, ρ => match g x ρ with
    | none => M.bad
    | some ρ1 => do
      let r ← b ρ1
      match r.1 with
      | .nx => forS g b xs r.2
      | .ct => forS g b xs r.2
      | .bk => pure (.nx, r.2)
      | .rt d => pure (.rt d, r.2)
/-- what is walked in a loop must stand still while the loop's body changes one's own containers -/
def Stab (B : Bs) (K : List Addr → Hp → Hp → Prop) : Prop := ∀ μ F H μ' F' H', K μ F H → Post B.μ B.F B.H μ F H → Post B.μ B.F B.H μ' F' H' → Sub F F' → Ext μ μ' → K μ' F' H'
def WantIS (G : Gs) (B : Bs) (μ : List Addr) (F H : Hp) (R : It → Hp → Prop) : List D → Sto → Prop :=
  fun ds st' => ∀ J K μ' F' H', Post μ F H μ' F' H' → StOk G μ' F' H' st' → ItOk G J K ds → Stab B K → K μ' F' H' → R J H'
def tKIS (G : Gs) (md : List Md) (B : Bs) (m : Env → M (List D)) : TI := fun σ H R => ∃ ρ μ F st, EnvOk G md μ F H ρ σ ∧ StOk G μ F H st ∧ (m ρ).gives st (WantIS G B μ F H R)
def SIS (cl : String → Option Addr) (md : List Md) (B : Bs) (X : Cx) (tg x : Expr) (m : Env → M (List D)) : Prop := PI X tg x (tKIS (gs X cl) md B m)
theorem sis_seq {tg x : Expr} {m : Env → M D} (h : SK cl md X .val x m) : SIS cl md B X tg x (fun ρ => do let d ← m ρ; itemsD d) := PI.mono (pi_seq h) fun σ H R ⟨ρ, μ, F, st, hE, hS, w⟩ => by
  refine ⟨ρ, μ, F, st, hE, hS, ?_⟩
  rw [M.gives_bind] at w
  refine M.gives_mono w fun d st1 w1 v μ1 F1 H1 p1 s1 r1 => ?_
  cases d <;> try exact w1.elim
  · obtain ⟨z, a, vs, e, hq, r⟩ := r1
    exact ⟨a, e, .inl ⟨⟨vs, .inl (.inl (s1.sub _ _ hq))⟩, w1 _ _ μ1 F1 H1 p1 s1 (it_list z) (fun _ _ _ _ _ _ ⟨k1, k2⟩ _ _ a b => ⟨a.seqL k1, RpL.mono b a _ _ k2⟩) ⟨.inl (.inl hq), r⟩⟩⟩
  · obtain ⟨z, a, vs, e, hq, r⟩ := r1
    exact ⟨a, e, .inr ⟨⟨vs, s1.sub.seqT hq⟩, w1 _ _ μ1 F1 H1 p1 s1 (it_tup z) (fun _ _ _ _ _ _ ⟨k1, k2⟩ _ _ a b => ⟨a.seqT k1, RpL.mono b a _ _ k2⟩) ⟨hq, r⟩⟩⟩
  · obtain ⟨z, a, vs, e, hq, r⟩ := r1
    exact ⟨a, e, .inl ⟨⟨vs, s1.sub.seqL hq⟩, w1 _ _ μ1 F1 H1 p1 s1 (it_list z) (fun _ _ _ _ _ _ ⟨k1, k2⟩ _ _ a b => ⟨a.seqL k1, RpL.mono b a _ _ k2⟩) ⟨hq, r⟩⟩⟩
theorem sis_range1 {tg a : Expr} {p pos : Pos} {m : Env → M D} (hg : Gl X "range") (hm : X.mg "range" = none) (h : SK cl md X .val a m) (hs : starEach [a] X.env = [(false, eval a X.env)] := by rfl) : SIS cl md B X tg (.Call (.Name "range" p) [a] [] pos) (fun ρ => do let d ← m ρ; rng1 d) :=
  PI.mono (pi_range1 hg hm (sa_one h hs) hs) fun σ H R ⟨ρ, μ, F, st, hE, hS, w⟩ => by
    rw [M.gives_bind] at w
    refine tkl_one hE hS (M.gives_mono w fun d st1 w1 v μ1 F1 H1 p1 s1 r1 => ?_)
    obtain ⟨n, rfl, hn, w2⟩ := rng1_gives w1
    have ev : v = .int n := r1
    subst ev
    refine ⟨n, rfl, hn.1, by omega, ?_⟩
    have := w2 (Itr 0 (n - 0).toNat) _ μ1 F1 H1 p1 s1 (it_range (by omega)) (fun _ _ _ _ _ _ _ _ _ _ _ => trivial) trivial
    rw [Int.sub_zero] at this
    exact this
theorem ss_for {tg iter : Expr} {body : List Stmt} {pos : Pos} {ns : List Nat} {mi : Env → M (List D)} {g : D → Env → Option Env} {mb : MS} (hp : PassesOwn (model X.prog X.w) X.A X.env X.xe) (hc : X.calm = true) (hi : SIS cl md B X tg iter mi) (hg : SG cl md X ns tg g)
    (hb : SSs cl md B X body mb) (hv : ∀ i ∈ ns, md[i]? = some .val) (hs : ∀ x, foldedSetIterable iter X.env x = pure x := by intro _; rfl) : SS cl md B X (.For tg iter body [] pos) (fun ρ => do let ds ← mi ρ; forS g mb ds ρ) :=
  PS.mono (ps_for hp hc hi hg hb hs) fun D σ H ⟨ρ, μ, F, st, s, w⟩ => by
    refine ⟨ρ, μ, F, st, s.env, s.sto, ?_⟩
    rw [M.gives_bind] at w
    refine M.gives_mono w fun ds st1 w1 J K μ1 F1 H1 p1 s1 hJ hK k1 => ?_
    have s' := s.step p1 s1
    refine ⟨fun i m σ H2 => m = ds.length - i ∧ i ≤ ds.length ∧ ∃ ρ2 μ2 F2 st2, Sit (gs X cl) md B ρ2 σ μ2 F2 H2 st2 ∧ K μ2 F2 H2 ∧ Sub F F2 ∧ Ext μ μ2 ∧ (forS g mb (ds.drop i) ρ2).gives st2 (WantS (gs X cl) md B μ2 F2 D),
      ⟨ds.length, by simp, Nat.zero_le _, ρ, μ1, F1, st1, s', k1, p1.subF, p1.mu, M.gives_mono (show (forS g mb (ds.drop 0) ρ).gives st1 (WantS (gs X cl) md B μ F D) by simpa using w1) fun r st w => WantS.after p1.subF p1.mu w⟩, ?_⟩
    rintro i m σ2 H2 ⟨rfl, hi, ρ2, μ2, F2, st2, s2, k2, f2, x2, w2⟩
    by_cases hlt : i < ds.length
    · refine .inr ⟨hJ.go i _ _ _ k2 s2.sto.sub hlt, _, fun σ' H' q => ⟨ds.length - (i + 1), by omega, rfl, q⟩, fun x H3 hy => ?_⟩
      have hd : ds[i]? = some ds[i] := List.getElem?_eq_getElem hlt
      obtain ⟨F3, p3, s3, r3⟩ := hJ.yld i _ _ _ x H3 ds[i] st2 k2 s2.sto hd hy
      have k3 := hJ.keep _ _ _ _ _ _ k2 p3
      rw [List.drop_eq_getElem_cons hlt] at w2
      unfold forS at w2
      cases eg : g ds[i] ρ2 with
      | none => rw [eg] at w2; exact w2.elim
      | some ρ3 =>
        rw [eg] at w2
        simp only at w2
        have t2 := s2.step p3 s3
        refine ⟨ρ2, μ2, F3, ds[i], ρ3, t2.env, s3.sub, r3, eg, fun σ3 hE3 hl3 hσ3 => ?_⟩
        have t3 : Sit (gs X cl) md B ρ3 σ3 μ2 F3 H3 st2 := ⟨hE3, s3, t2.post, fun j e a e1 e2 e3 => by
          have nj : j ∉ ns := fun q => by rw [hv j q] at e1; cases e1
          obtain ⟨z1, z2⟩ := hσ3 j nj
          rw [z1] at e3
          rw [z2] at e2
          exact t2.fre j e a e1 e2 e3⟩
        refine ⟨ρ3, μ2, F3, st2, t3, ?_⟩
        rw [M.gives_bind] at w2
        refine M.gives_mono w2 fun r st4 w4 => ?_
        obtain ⟨f, ρ4⟩ := r
        cases f
        · exact fun σ' μ' F' H' s4 a b => ⟨hlt, ρ4, μ', F', st4, s4, hK _ _ _ _ _ _ k3 t3.post s4.post a b, f2.trans (p3.subF.trans a), x2.trans b, M.gives_mono w4 fun r st w => w.after (p3.subF.trans a) b⟩
        · exact fun σ' μ' F' H' s4 a b => w4 σ' μ' F' H' s4 (p3.subF.trans a) b
        · exact fun σ' μ' F' H' s4 a b => ⟨hlt, ρ4, μ', F', st4, s4, hK _ _ _ _ _ _ k3 t3.post s4.post a b, f2.trans (p3.subF.trans a), x2.trans b, M.gives_mono w4 fun r st w => w.after (p3.subF.trans a) b⟩
        · exact w4
    · have ei : i = ds.length := by omega
      subst ei
      refine .inl ⟨hJ.stop _ _ _ _ k2 s2.sto.sub (Nat.le_refl _), ?_⟩
      rw [List.drop_length] at w2
      exact w2 σ2 μ2 F2 H2 s2 (Sub.refl _) (Ext.refl _)

/-! ### defs and their calls -/
/-- the promise of a def whose shallow function is f -/
def spF (G : Gs) (pk : List Kd) (rk : Kd) (f : List D → M D) : Sp := fun vs H Q _ => ∃ μ F ds st, StOk G μ F H st ∧ ds.length = pk.length ∧ vs.length = pk.length ∧
  (∀ (i : Nat) (k : Kd) (d : D) (v : V), pk[i]? = some k → ds[i]? = some d → vs[i]? = some v → RK G k H μ F H d v) ∧ (f ds).gives st (Want G rk μ F H Q)
/-- f(e, ..), every parameter given -/
theorem sk_call {pk : List Kd} {rk : Kd} {f : List D → M D} {k : Nat} {a : Addr} {fd : FuncData} {ps : List Str} {x : Str} {p pos : Pos} {e : Expr} {es : List Expr} {m : Env → M (List D)}
    (F : FnOk X.prog X.w X.K X.mg X.base CX0 k a fd ps (spF (gs X cl) pk rk f)) (hr : Room k X.A) (hg : Gl X x) (hm : X.mg x = some (.ref a)) (hk : PySem.W.keepIn X.K (.ref a) = true) (hb : Binds X.K fd ps [])
    (ha : SA cl md X pk (e :: es) m) (hfr : ∀ k ∈ pk, k ≠ .fre) (hdb : (x == ("__debug__" : Str)) = false := by decide) (he : starEach (e :: es) X.env = (false, eval e X.env) :: starEach es X.env := by rfl) (hpl : (backTo pos (starEach es X.env)).any (·.1) = false := by rfl) :
    SK cl md X rk (.Call (.Name x p) (e :: es) [] pos) (fun ρ => do let ds ← m ρ; f ds) := PE.mono (pe_call (E := E0) F hr hg hm hk hb .nil pass0 ha hdb he hpl) fun σ H Q ⟨ρ, μ, F, st, hE, hS, w⟩ => by
  refine ⟨ρ, μ, F, st, hE, hS, ?_⟩
  rw [M.gives_bind] at w
  refine M.gives_mono w fun ds st1 w1 vs μ1 F1 H1 p1 s1 ⟨l1, l2, r1⟩ => ?_
  refine ⟨μ1, F1, ds, st1, s1, l1, by simpa using l2, fun i k d v e1 e2 e3 => ?_, M.gives_mono w1 fun d st2 w2 => w2.after p1⟩
  have e3 : vs[i]? = some v := by simpa using e3
  have q := r1 i k d v e1 e2 e3
  cases k with
  | val => exact q
  | bor => exact q
  | fre => exact absurd rfl (hfr _ (List.mem_of_getElem? e1))
/-- the slots at a body's start -/
def envOf (n : Nat) (ds : List D) : Env := ds.map some ++ List.replicate (n - ds.length) none
def runB (n : Nat) (rk : Kd) (m : MS) (ds : List D) : M D := do
  let r ← m (envOf n ds)
  match r.1, rk with
  | .rt d, _ => pure d
  | .nx, .val => pure .non
  | _, _ => M.bad
def mdOk (md : List Md) (pk : List Kd) (n : Nat) : Bool := md.length == n && pk.length ≤ n && (List.range pk.length).all fun i => match pk[i]?, md[i]? with
  | some .val, some .val => true
  | some .bor, some .bor => true
  | _, _ => false
theorem mdOk_at {md : List Md} {pk : List Kd} {n : Nat} (h : mdOk md pk n = true) : md.length = n ∧ pk.length ≤ n ∧ ∀ (i : Nat) (k : Kd), pk[i]? = some k → (k = .val ∧ md[i]? = some .val) ∨ (k = .bor ∧ md[i]? = some .bor) := by
  unfold mdOk at h
  simp only [Bool.and_eq_true, beq_iff_eq, decide_eq_true_eq, List.all_eq_true, List.mem_range] at h
  obtain ⟨⟨h1, h2⟩, h3⟩ := h
  refine ⟨h1, h2, fun i k hk => ?_⟩
  have q := h3 i (List.getElem?_eq_some_iff.mp hk).1
  rw [hk] at q
  split at q
  · rename_i e1 e2; cases e1; exact .inl ⟨rfl, e2⟩
  · rename_i e1 e2; cases e1; exact .inr ⟨rfl, e2⟩
  · cases q
theorem sit_start {G : Gs} {pk : List Kd} {rk : Kd} {N : List Str} {vs : List V} {ds : List D} {μ : List Addr} {F H : Hp} {st : Sto} (hm : mdOk md pk N.length = true) (hS : StOk G μ F H st) (l1 : ds.length = pk.length) (l2 : vs.length = pk.length)
    (r : ∀ (i : Nat) (k : Kd) (d : D) (v : V), pk[i]? = some k → ds[i]? = some d → vs[i]? = some v → RK G k H μ F H d v) : Sit G md ⟨μ, F, H, rk⟩ (envOf N.length ds) (L2.start N vs) μ F H st := by
  obtain ⟨m1, m2, m3⟩ := mdOk_at hm
  have at_ : ∀ i d, (envOf N.length ds)[i]? = some (some d) → ∃ v k, ds[i]? = some d ∧ vs[i]? = some v ∧ pk[i]? = some k ∧ (L2.start N vs)[i]? = some (some v) := fun i d h => by
    have hi : i < ds.length := by
      by_cases hi : i < ds.length
      · exact hi
      · unfold envOf at h
        rw [List.getElem?_append_right (by simpa using hi), List.getElem?_replicate] at h
        split at h <;> cases h
    have hv : i < vs.length := by omega
    have hk : i < pk.length := by omega
    refine ⟨vs[i], pk[i], ?_, List.getElem?_eq_getElem hv, List.getElem?_eq_getElem hk, ?_⟩
    · unfold envOf at h
      rw [List.getElem?_append_left (by simpa using hi), List.getElem?_map] at h
      cases e : ds[i]? with
      | none => rw [e] at h; cases h
      | some x => rw [e] at h; cases h; rfl
    · unfold L2.start
      rw [List.getElem?_append_left (by simpa using hv), List.getElem?_map, List.getElem?_eq_getElem hv]
      rfl
  refine ⟨⟨?_, ?_, ?_⟩, hS, .refl, fun i d a e1 e2 e3 => ?_⟩
  · simp [envOf, L2.start, l1, l2]
  · rw [m1]
    simp [envOf, l1]
    omega
  · -- which of the borrowed lie as containers
    have choose : ∀ i : Nat, ∃ o : Option Addr, (∀ d, (envOf N.length ds)[i]? = some (some d) → ∃ v m, md[i]? = some m ∧ (L2.start N vs)[i]? = some (some v) ∧ m ≠ .own ∧ match o with
        | some a => v = .ref a ∧ m ≠ .val ∧ OwnAt G μ F H a d
        | none => Rp G μ F d v) ∧ ((∀ d, (envOf N.length ds)[i]? ≠ some (some d)) → o = none) := fun i => by
      by_cases q : ∃ d, (envOf N.length ds)[i]? = some (some d)
      · obtain ⟨d, q⟩ := q
        obtain ⟨v, k, e1, e2, e3, e4⟩ := at_ i d q
        have rr := r i k d v e3 e1 e2
        rcases m3 i k e3 with ⟨rfl, em⟩ | ⟨rfl, em⟩
        · exact ⟨none, fun d' q' => by rw [q] at q'; cases q'; exact ⟨v, .val, em, e4, by decide, rr⟩, fun _ => rfl⟩
        · rcases rr with rr | ⟨a, rfl, o⟩
          · exact ⟨none, fun d' q' => by rw [q] at q'; cases q'; exact ⟨v, .bor, em, e4, by decide, rr⟩, fun _ => rfl⟩
          · exact ⟨some a, fun d' q' => by rw [q] at q'; cases q'; exact ⟨.ref a, .bor, em, e4, by decide, rfl, by decide, o⟩, fun z => absurd q (z d)⟩
      · exact ⟨none, fun d q' => absurd ⟨d, q'⟩ q, fun _ => rfl⟩
    refine ⟨fun i => (choose i).choose, fun i m d e1 e2 => ?_, fun i j a e1 e2 ne em => ?_, fun i h => (choose i).choose_spec.2 h⟩
    · obtain ⟨v, m', f1, f2, f3, f4⟩ := (choose i).choose_spec.1 d e2
      rw [e1] at f1; cases f1
      refine ⟨v, f2, ?_⟩
      simp only
      cases e : (choose i).choose with
      | none => rw [e] at f4; exact ⟨f3, f4⟩
      | some a => rw [e] at f4; exact f4
    · simp only at e1
      by_cases q : ∃ d, (envOf N.length ds)[i]? = some (some d)
      · obtain ⟨d, q⟩ := q
        obtain ⟨v, m', f1, f2, f3, f4⟩ := (choose i).choose_spec.1 d q
        rw [em] at f1; cases f1
        exact f3 rfl
      · have := (choose i).choose_spec.2 fun d z => q ⟨d, z⟩
        rw [this] at e1; cases e1
  · obtain ⟨v, k, f1, f2, f3, f4⟩ := at_ i d e2
    rcases m3 i k f3 with ⟨_, em⟩ | ⟨_, em⟩ <;> (rw [em] at e1; cases e1)
/-- THE RULE for a def: its body's judgement -/
theorem fn_ok {P : Program} {w : World} {K : PySem.W.Frag} {mg : Str → Option Value} {base : Heap} {x qual : Str} {s : Stmt} {f : Addr} {fd : FuncData} {N ps : List Str} {k : Nat} {pk : List Kd} {rk : Kd} {m : MS}
    (F : Fun K x qual s f fd) (S : FnScope N ps (defScope s)) (hl : pk.length = ps.length) (hm : mdOk md pk N.length = true)
    (hbody : ∀ (cdv : Value) (A : Around) (outer : List PySem.Env) (s0 : Shared) (H : Hp) (E : XK) (B : Bs), B.rk = rk → Room k (A.deeper (envOfC qual (defScope s) s0.heap.objs.size f cdv)) →
      SSs cl md B (cxOf CX0 P w K mg base N qual (defScope s) f cdv A outer s0 H E).nox (defBody s) m) : FnOk P w K mg base CX0 (k + 1) f fd ps (spF ⟨K, cl⟩ pk rk (runB N.length rk m)) := by
  refine F.ok S (fun vs H Q E h => ?_) (fun cdv A outer s0 H vs Q E hr h => ?_)
  · obtain ⟨_, _, _, _, _, _, l2, _⟩ := h
    exact l2.trans hl
  · obtain ⟨μ, F, ds, st, hS, l1, l2, r, w⟩ := h
    refine ⟨_, hbody cdv A outer s0 H E ⟨μ, F, H, rk⟩ rfl hr, envOf N.length ds, μ, F, st, sit_start hm hS l1 l2 r, ?_⟩
    unfold runB at w
    rw [M.gives_bind] at w
    refine M.gives_mono w fun rr st1 w1 => ?_
    obtain ⟨fl, ρ⟩ := rr
    cases fl
    · cases rk
      · exact fun σ' μ' F' H' s' _ _ => w1 .non μ' F' H' s'.post s'.sto rfl
      · exact w1.elim
      · exact w1.elim
    · exact w1.elim
    · exact w1.elim
    · exact fun v μ' F' H' p s r => w1 v μ' F' H' p s r
end
end Sh
namespace Sh
open PySem PySem.Spec PyProof.Rows L2

theorem okS_len {s : Str} (h : okS s = true) : s.length ≤ sizeLine := by
  unfold okS at h
  simp only [Bool.and_eq_true, decide_eq_true_eq] at h
  rw [sizeLine_eq]
  exact h.1
theorem okS_ok {s : Str} (h : okS s = true) : PyData.strOk s = true := by
  unfold okS at h
  simp only [Bool.and_eq_true, decide_eq_true_eq] at h
  exact h.2
theorem okS_mk {s : Str} (h : s.length ≤ 16777216) (h2 : PyData.strOk s = true) : okS s = true := by
  unfold okS
  simp [h, h2]

/-! ### data without dicts, objects -/
mutual
def D.py : D → Option PyData
  | .non => some .none
  | .bl b => some (.bool b)
  | .int i => some (.int i)
  | .str s => some (.str s)
  | .lst ds => match pyL ds with
    | some ps => some (.list ps)
    | none => none
  | .tup ds => match pyL ds with
    | some ps => some (.tuple ps)
    | none => none
  | .dic _ => none
  | .obj _ _ => none
  | .dit _ => none
  | .ref _ => none
  | .frl _ => none
def pyL : List D → Option (List PyData)
  | [] => some []
  | d :: ds => match d.py, pyL ds with
    | some p, some ps => some (p :: ps)
    | _, _ => none
end
section
variable {G : Gs} {μ : List Addr} {F H : Hp}
mutual
theorem rp_dp (hs : Sub F H) : ∀ (d : D) (p : PyData) (v : V), d.py = some p → Rp G μ F d v → Dp G.K H v p ∧ p.canLay0 = true
  | .non, p, v, e, r => by cases e; cases r; exact ⟨.non, rfl⟩
  | .bl b, p, v, e, r => by cases e; cases r; exact ⟨.bl b, rfl⟩
  | .int i, p, v, e, r => by cases e; cases r; exact ⟨.int i, rfl⟩
  | .str s, p, v, e, r => by
    cases e
    obtain ⟨rfl, ok⟩ := r
    exact ⟨.str s, by simpa [PyData.canLay0] using okS_ok ok⟩
  | .lst ds, p, v, e, r => by
    unfold D.py at e
    obtain ⟨z, a, vs, rfl, hq, rl⟩ := r
    cases ep : pyL ds with
    | none => rw [ep] at e; cases e
    | some ps =>
      rw [ep] at e; cases e
      obtain ⟨h1, h2⟩ := rpl_dp hs ds ps vs ep rl
      exact ⟨.lst (.inl (.inl (hs _ _ hq))) h1, by simpa [PyData.canLay0] using h2⟩
  | .tup ds, p, v, e, r => by
    unfold D.py at e
    obtain ⟨z, a, vs, rfl, hq, rl⟩ := r
    cases ep : pyL ds with
    | none => rw [ep] at e; cases e
    | some ps =>
      rw [ep] at e; cases e
      obtain ⟨h1, h2⟩ := rpl_dp hs ds ps vs ep rl
      exact ⟨.tup (hs.seqT hq) h1, by simpa [PyData.canLay0] using h2⟩
  | .dic _, p, v, e, r => by cases e
  | .obj _ _, p, v, e, r => by cases e
  | .dit _, p, v, e, r => by cases e
  | .ref _, p, v, e, r => by cases e
  | .frl _, p, v, e, r => by cases e
theorem rpl_dp (hs : Sub F H) : ∀ (ds : List D) (ps : List PyData) (vs : List V), pyL ds = some ps → RpL G μ F ds vs → DpAll G.K H vs ps ∧ PyData.canLayAll0 ps = true
  | [], ps, vs, e, r => by
    cases e
    have r : vs = [] := r
    subst r
    exact ⟨.nil, rfl⟩
  | d :: ds, ps, vs, e, r => by
    unfold pyL at e
    obtain ⟨v, vr, rfl, r1, r2⟩ := r
    cases e1 : d.py with
    | none => rw [e1] at e; cases e
    | some p =>
      cases e2 : pyL ds with
      | none => rw [e1, e2] at e; cases e
      | some ps' =>
        rw [e1, e2] at e; cases e
        obtain ⟨h1, c1⟩ := rp_dp hs d p v e1 r1
        obtain ⟨h2, c2⟩ := rpl_dp hs ds ps' vr e2 r2
        exact ⟨.cons h1 h2, by simp [PyData.canLayAll0, c1, c2]⟩
end
/-- how a value, or a container that stands now, lies -/
def VR (G : Gs) (μ : List Addr) (F H : Hp) (d : D) (v : V) : Prop := Rp G μ F d v ∨ ∃ a, v = .ref a ∧ ObjAt G μ F H a d
theorem rk_vr {k : Kd} {H0 : Hp} {d : D} {v : V} (r : RK G k H0 μ F H d v) : VR G μ F H d v := by
  cases k with
  | val => exact .inl r
  | bor =>
    rcases r with r | ⟨a, e, o⟩
    · exact .inl r
    · exact .inr ⟨a, e, o.2⟩
  | fre =>
    obtain ⟨a, e, _, _, o⟩ := r
    exact .inr ⟨a, e, o.2⟩
/-- what a reference shows now -/
def view (d : D) : M D := fun st => match d with
  | .ref l => match st[l]? with
    | some o => .ok o st
    | none => .bad
  | d => .ok d st
theorem view_gives {st : Sto} {k : Kd} {H0 : Hp} {d : D} {v : V} {P : D → Sto → Prop} (s : StOk G μ F H st) (r : RK G k H0 μ F H d v) (h : (view d).gives st P) : ∃ d', VR G μ F H d' v ∧ P d' st := by
  unfold view M.gives at h
  cases d <;> try exact ⟨_, rk_vr r, h⟩
  rename_i l
  simp only at h
  cases e : st[l]? with
  | none => rw [e] at h; exact h.elim
  | some o =>
    rw [e] at h
    refine ⟨o, ?_, h⟩
    have key : ∀ a, v = .ref a → μ[l]? = some a → VR G μ F H o v := fun a ev em => .inr ⟨a, ev, s.obj l a o em e⟩
    cases k with
    | val => obtain ⟨a, ev, em⟩ := r; exact key a ev em
    | bor =>
      rcases r with ⟨a, ev, em⟩ | ⟨a, _, o⟩
      · exact key a ev em
      · exact o.2.elim
    | fre => obtain ⟨a, _, _, _, o⟩ := r; exact o.2.elim
theorem vr_dp {d : D} {p : PyData} {v : V} (hs : Sub F H) (e : d.py = some p) (r : VR G μ F H d v) : Dp G.K H v p ∧ p.canLay0 = true := by
  rcases r with r | ⟨a, ev, o⟩
  · exact rp_dp hs d p v e r
  · subst ev
    cases d <;> try exact o.elim
    · rename_i ds
      obtain ⟨f, z, vs, hq, rl⟩ := o
      unfold D.py at e
      cases ep : pyL ds with
      | none => rw [ep] at e; cases e
      | some ps =>
        rw [ep] at e; cases e
        obtain ⟨h1, h2⟩ := rpl_dp hs ds ps vs ep rl
        exact ⟨.lst (.inl (.inl hq)) h1, by simpa [PyData.canLay0] using h2⟩
    · cases e
    · cases e
    · cases e
theorem vr_lst {ds : List D} {v : V} (hs : Sub F H) (r : VR G μ F H (.lst ds) v) : ∃ a vs, v = .ref a ∧ H a = some (.lst vs) ∧ RpL G μ F ds vs ∧ ds.length ≤ sizeLine := by
  rcases r with ⟨z, a, vs, rfl, hq, rl⟩ | ⟨a, rfl, f, z, vs, hq, rl⟩
  · exact ⟨a, vs, rfl, hs _ _ hq, rl, z⟩
  · exact ⟨a, vs, rfl, hq, rl, z⟩
theorem vr_tup {ds : List D} {v : V} (r : VR G μ F H (.tup ds) v) : Rp G μ F (.tup ds) v := by
  rcases r with r | ⟨a, _, o⟩
  · exact r
  · exact o.elim
theorem vr_frl {ds : List D} {v : V} (r : VR G μ F H (.frl ds) v) : Rp G μ F (.frl ds) v := by
  rcases r with r | ⟨a, _, o⟩
  · exact r
  · exact o.elim
theorem vr_str {x : Str} {v : V} (r : VR G μ F H (.str x) v) : v = .str x ∧ okS x = true := by
  rcases r with r | ⟨a, _, o⟩
  · exact r
  · exact o.elim
/-- a flat dict -/
theorem vr_dic {kvs : List (D × D)} {v : V} (hs : Sub F H) (r : VR G μ F H (.dic kvs) v) : kvs.length ≤ sizeLine ∧ ∃ a L, v = .ref a ∧ H a = some (.dK L) ∧ RpK G μ F kvs L := by
  rcases r with ⟨z, a, L, rfl, q, r⟩ | ⟨a, rfl, f, z, L, q, r⟩
  · exact ⟨z, a, L, rfl, hs _ _ q, r⟩
  · exact ⟨z, a, L, rfl, q, r⟩
end

/-! ### == and != -/
/-- by the two's data -/
def rEqP (K : PySem.W.Frag) (neg : Bool) : R2 := fun x y H Q => ∃ p q, Dp K H x p ∧ Dp K H y q ∧ p.canLay0 = true ∧ q.canLay0 = true ∧ min p.depth q.depth ≤ 64 ∧ Q (.bl (if neg then !PyData.eqv p q else PyData.eqv p q)) H
section
variable {cl : String → Option Addr} {md : List Md} {X : Cx}
theorem op_eqP (hu : X.A.units + 64 < cLine) : OpR X (compareOp .Eq) (rEqP X.K false) := by
  intro pins s σ H x y v u Q I rx ry h
  obtain ⟨p, q, hp, hq, c1, c2, hd, k⟩ := h
  obtain ⟨as, r1⟩ := Dp.reads I p x v hp rx
  obtain ⟨bs, r2⟩ := Dp.reads I q y u hq ry
  exact SeqAt.compareEq_reads r1 r2 c1 c2 (by omega) ⟨.bl _, H, I, rfl, k⟩
theorem op_neP (hu : X.A.units + 64 < cLine) : OpR X (compareOp .NotEq) (rEqP X.K true) := by
  intro pins s σ H x y v u Q I rx ry h
  obtain ⟨p, q, hp, hq, c1, c2, hd, k⟩ := h
  obtain ⟨as, r1⟩ := Dp.reads I p x v hp rx
  obtain ⟨bs, r2⟩ := Dp.reads I q y u hq ry
  exact SeqAt.compareNe_reads r1 r2 c1 c2 (by omega) ⟨.bl _, H, I, rfl, k⟩
/-- the equality of two values; none where it is not told here -/
def eqB (a b : D) : Option Bool := match a.py, b.py with
  | some p, some q => if min p.depth q.depth ≤ 64 then some (PyData.eqv p q) else none
  | _, _ => none
def optB (f : Bool → Bool) : Option Bool → M D
  | some k => pure (.bl (f k))
  | none => M.bad
def eqD (a b : D) : M D := do
  let x ← view a
  let y ← view b
  optB id (eqB x y)
def neD (a b : D) : M D := do
  let x ← view a
  let y ← view b
  optB not (eqB x y)
theorem optB_gives {f : Bool → Bool} {o : Option Bool} {st : Sto} {P : D → Sto → Prop} (h : (optB f o).gives st P) : ∃ k, o = some k ∧ P (.bl (f k)) st := by
  cases o with
  | none => exact h.elim
  | some k => exact ⟨k, rfl, h⟩
theorem eqB_some {a b : D} {k : Bool} (h : eqB a b = some k) : ∃ p q, a.py = some p ∧ b.py = some q ∧ min p.depth q.depth ≤ 64 ∧ PyData.eqv p q = k := by
  unfold eqB at h
  cases e1 : a.py with
  | none => rw [e1] at h; cases h
  | some p =>
    cases e2 : b.py with
    | none => rw [e1, e2] at h; cases h
    | some q =>
      rw [e1, e2] at h
      simp only at h
      split at h
      · cases h; exact ⟨p, q, rfl, rfl, by assumption, rfl⟩
      · cases h
theorem o2_eq {ka kb : Kd} : Op2 (gs X cl) ka kb .val (rEqP X.K false) eqD := fun μ F H H1 H2 st d e v u Q s r1 r2 w => by
  unfold eqD at w
  rw [M.gives_bind] at w
  obtain ⟨d', v1, w⟩ := view_gives s r1 w
  rw [M.gives_bind] at w
  obtain ⟨e', v2, w⟩ := view_gives s r2 w
  obtain ⟨k, h, w⟩ := optB_gives w
  obtain ⟨p, q, e1, e2, hd, ek⟩ := eqB_some h
  obtain ⟨d1, c1⟩ := vr_dp s.sub e1 v1
  obtain ⟨d2, c2⟩ := vr_dp s.sub e2 v2
  exact ⟨p, q, d1, d2, c1, c2, hd, by rw [if_neg Bool.false_ne_true, ek]; exact w _ μ F H .refl s rfl⟩
theorem o2_ne {ka kb : Kd} : Op2 (gs X cl) ka kb .val (rEqP X.K true) neD := fun μ F H H1 H2 st d e v u Q s r1 r2 w => by
  unfold neD at w
  rw [M.gives_bind] at w
  obtain ⟨d', v1, w⟩ := view_gives s r1 w
  rw [M.gives_bind] at w
  obtain ⟨e', v2, w⟩ := view_gives s r2 w
  obtain ⟨k, h, w⟩ := optB_gives w
  obtain ⟨p, q, e1, e2, hd, ek⟩ := eqB_some h
  obtain ⟨d1, c1⟩ := vr_dp s.sub e1 v1
  obtain ⟨d2, c2⟩ := vr_dp s.sub e2 v2
  exact ⟨p, q, d1, d2, c1, c2, hd, by rw [if_pos rfl, ek]; exact w _ μ F H .refl s rfl⟩

/-! ### the order of ints and texts -/
def rLt2 (fi : Int → Int → Bool) (fs : Str → Str → Bool) : R2 := fun x y H Q => (∃ i j, x = .int i ∧ y = .int j ∧ Q (.bl (fi i j)) H) ∨ ∃ i j, x = .str i ∧ y = .str j ∧ Q (.bl (fs i j)) H
def ltI (i j : Int) : Bool := decide (i < j)
def leI (i j : Int) : Bool := decide (i ≤ j)
def gtI (i j : Int) : Bool := decide (j < i)
def geI (i j : Int) : Bool := decide (j ≤ i)
def ltS (i j : Str) : Bool := decide (i.cps.toList < j.cps.toList)
def cmpI (f : Int → Int → Bool) (a b : D) : M D := match a, b with
  | .int i, .int j => pure (.bl (f i j))
  | _, _ => M.bad
def ltD (a b : D) : M D := match a, b with
  | .int i, .int j => pure (.bl (ltI i j))
  | .str i, .str j => pure (.bl (ltS i j))
  | _, _ => M.bad
theorem rk_int {G : Gs} {k : Kd} {H0 : Hp} {μ : List Addr} {F H : Hp} {i : Int} {v : V} (r : RK G k H0 μ F H (.int i) v) : v = .int i := by
  cases k with
  | val => exact r
  | bor =>
    rcases r with r | ⟨a, _, o⟩
    · exact r
    · exact o.2.elim
  | fre => obtain ⟨a, _, _, _, o⟩ := r; exact o.2.elim
theorem rk_str {G : Gs} {k : Kd} {H0 : Hp} {μ : List Addr} {F H : Hp} {s : Str} {v : V} (r : RK G k H0 μ F H (.str s) v) : v = .str s ∧ okS s = true := by
  cases k with
  | val => exact r
  | bor =>
    rcases r with r | ⟨a, _, o⟩
    · exact r
    · exact o.2.elim
  | fre => obtain ⟨a, _, _, _, o⟩ := r; exact o.2.elim
theorem rk_bl {G : Gs} {k : Kd} {H0 : Hp} {μ : List Addr} {F H : Hp} {b : Bool} {v : V} (r : RK G k H0 μ F H (.bl b) v) : v = .bl b := by
  cases k with
  | val => exact r
  | bor =>
    rcases r with r | ⟨a, _, o⟩
    · exact r
    · exact o.2.elim
  | fre => obtain ⟨a, _, _, _, o⟩ := r; exact o.2.elim
theorem o2_cmpI {ka kb : Kd} {f : Int → Int → Bool} : Op2 (gs X cl) ka kb .val (rI0 fun i j => .bl (f i j)) (cmpI f) := fun μ F H H1 H2 st d e v u Q s r1 r2 w => by
  unfold cmpI at w
  cases d <;> try exact w.elim
  cases e <;> try exact w.elim
  exact ⟨_, _, rk_int r1, rk_int r2, w _ μ F H .refl s rfl⟩
theorem op_lt2 : OpR X (compareOp .Lt) (rLt2 ltI ltS) := OpR.or op_lt op_lt_str
theorem o2_lt {ka kb : Kd} : Op2 (gs X cl) ka kb .val (rLt2 ltI ltS) ltD := fun μ F H H1 H2 st d e v u Q s r1 r2 w => by
  unfold ltD at w
  cases d <;> try exact w.elim
  · cases e <;> try exact w.elim
    exact .inl ⟨_, _, rk_int r1, rk_int r2, w _ μ F H .refl s rfl⟩
  · cases e <;> try exact w.elim
    exact .inr ⟨_, _, (rk_str r1).1, (rk_str r2).1, w _ μ F H .refl s rfl⟩

/-! ### arithmetic, concatenation -/
def arI (C : Int → Int → Bool) (f : Int → Int → Int) (a b : D) : M D := match a, b with
  | .int i, .int j => if C i j = true then pure (.int (f i j)) else M.bad
  | _, _ => M.bad
theorem o2_arI {ka kb : Kd} {C : Int → Int → Bool} {C' : Int → Int → Prop} {f : Int → Int → Int} (h : ∀ i j, C i j = true → C' i j) : Op2 (gs X cl) ka kb .val (rI C' fun i j => .int (f i j)) (arI C f) := fun μ F H H1 H2 st d e v u Q s r1 r2 w => by
  unfold arI at w
  cases d <;> try exact w.elim
  cases e <;> try exact w.elim
  obtain ⟨c, w⟩ := ite_gives w
  exact ⟨_, _, rk_int r1, rk_int r2, h _ _ c, w _ μ F H .refl s rfl⟩
def subD (a b : D) : M D := arI (fun _ _ => true) (fun i j => i - j) a b
theorem o2_sub {ka kb : Kd} : Op2 (gs X cl) ka kb .val (rI0 fun i j => .int (i - j)) subD := fun μ F H H1 H2 st d e v u Q s r1 r2 w => by
  obtain ⟨i, j, a, b, _, q⟩ := (o2_arI (C := fun _ _ => true) (C' := fun _ _ => True) (fun _ _ _ => trivial)) μ F H H1 H2 st d e v u Q s r1 r2 w
  exact ⟨i, j, a, b, q⟩
def mulC (i j : Int) : Bool := decide ((-(2 ^ 64) < i ∧ i < 2 ^ 64) ∨ (-(2 ^ 64) < j ∧ j < 2 ^ 64))
def modC (_ j : Int) : Bool := decide (0 < j)
def divC (_ j : Int) : Bool := decide (0 < j ∧ j < 1073741824)
def powC (i j : Int) : Bool := decide (0 ≤ j ∧ j ≤ 1000000 ∧ i.natAbs < 2 ^ 64)
def modD (a b : D) : M D := arI modC (fun i j => i % j) a b
def divD (a b : D) : M D := arI divC (fun i j => i / j) a b
def powD (a b : D) : M D := arI powC (fun i j => i ^ j.toNat) a b
theorem o2_mod {ka kb : Kd} : Op2 (gs X cl) ka kb .val (rI (fun _ j => 0 < j) fun i j => .int (i % j)) modD := o2_arI fun i j h => of_decide_eq_true h
theorem o2_div {ka kb : Kd} : Op2 (gs X cl) ka kb .val (rI CDiv fun i j => .int (i / j)) divD := o2_arI fun i j h => of_decide_eq_true (p := 0 < j ∧ j < 1073741824) h
theorem o2_pow {ka kb : Kd} : Op2 (gs X cl) ka kb .val (rI CPow fun i j => .int (i ^ j.toNat)) powD := o2_arI fun i j h => of_decide_eq_true (p := 0 ≤ j ∧ j ≤ 1000000 ∧ i.natAbs < 2 ^ 64) h

/-- a list or tuple, frozen or one's own, as the rules take it -/
theorem rk_lst {k : Kd} {H0 : Hp} {μ : List Addr} {F H : Hp} {ds : List D} {v : V} {G : Gs} (hs : Sub F H) (r : RK G k H0 μ F H (.lst ds) v) : ∃ a vs, v = .ref a ∧ H a = some (.lst vs) ∧ RpL G μ F ds vs ∧ ds.length ≤ sizeLine := by
  cases k with
  | val =>
    obtain ⟨z, a, vs, rfl, hq, rl⟩ := r
    exact ⟨a, vs, rfl, hs _ _ hq, rl, z⟩
  | bor =>
    rcases r with ⟨z, a, vs, rfl, hq, rl⟩ | ⟨a, rfl, _, f, z, vs, hq, rl⟩
    · exact ⟨a, vs, rfl, hs _ _ hq, rl, z⟩
    · exact ⟨a, vs, rfl, hq, rl, z⟩
  | fre =>
    obtain ⟨a, rfl, _, _, _, f, z, vs, hq, rl⟩ := r
    exact ⟨a, vs, rfl, hq, rl, z⟩
theorem rk_tup {k : Kd} {H0 : Hp} {μ : List Addr} {F H : Hp} {ds : List D} {v : V} {G : Gs} (hs : Sub F H) (r : RK G k H0 μ F H (.tup ds) v) : Rp G μ F (.tup ds) v := by
  cases k with
  | val => exact r
  | bor =>
    rcases r with r | ⟨a, _, o⟩
    · exact r
    · exact o.2.elim
  | fre => obtain ⟨a, _, _, _, o⟩ := r; exact o.2.elim
theorem rk_frl {k : Kd} {H0 : Hp} {μ : List Addr} {F H : Hp} {ds : List D} {v : V} {G : Gs} (hs : Sub F H) (r : RK G k H0 μ F H (.frl ds) v) : Rp G μ F (.frl ds) v := by
  cases k with
  | val => exact r
  | bor =>
    rcases r with r | ⟨a, _, o⟩
    · exact r
    · exact o.2.elim
  | fre => obtain ⟨a, _, _, _, o⟩ := r; exact o.2.elim
theorem rpl_app {G : Gs} {μ : List Addr} {F : Hp} : ∀ {ds es : List D} {vs us : List V}, RpL G μ F ds vs → RpL G μ F es us → RpL G μ F (ds ++ es) (vs ++ us)
  | [], _, _, _, h, r => by have h : _ = _ := h; subst h; exact r
  | d :: ds, es, _, us, h, r => by
    obtain ⟨v, vr, e, h1, h2⟩ := h
    subst e
    exact ⟨v, vr ++ us, rfl, h1, rpl_app h2 r⟩
theorem rpl_rep {G : Gs} {μ : List Addr} {F : Hp} {ds : List D} {vs : List V} (r : RpL G μ F ds vs) : ∀ n : Nat, RpL G μ F (List.replicate n ds).flatten (List.replicate n vs).flatten
  | 0 => rfl
  | n + 1 => by
    rw [List.replicate_succ, List.replicate_succ, List.flatten_cons, List.flatten_cons]
    exact rpl_app r (rpl_rep r n)
theorem rpl_get' {G : Gs} {μ : List Addr} {F : Hp} : ∀ {ds : List D} {vs : List V} {i : Nat} {d : D}, RpL G μ F ds vs → ds[i]? = some d → ∃ v, vs[i]? = some v ∧ Rp G μ F d v
  | [], _, i, _, _, h => by simp at h
  | d :: ds, _, 0, _, h, h1 => by
    obtain ⟨v, r, e, h3, h4⟩ := h
    subst e
    simp only [List.getElem?_cons_zero, Option.some.injEq] at h1
    subst h1
    exact ⟨v, rfl, h3⟩
  | d :: ds, _, i + 1, _, h, h1 => by
    obtain ⟨v, r, e, h3, h4⟩ := h
    subst e
    simp only [List.getElem?_cons_succ] at h1
    obtain ⟨v', e', h'⟩ := rpl_get' h4 h1
    exact ⟨v', by simpa using e', h'⟩
theorem rpl_drop {G : Gs} {μ : List Addr} {F : Hp} : ∀ {ds : List D} {vs : List V} (n : Nat), RpL G μ F ds vs → RpL G μ F (ds.drop n) (vs.drop n)
  | _, _, 0, h => h
  | [], _, n + 1, h => by have h : _ = _ := h; subst h; exact rfl
  | d :: ds, _, n + 1, h => by
    obtain ⟨v, r, e, h3, h4⟩ := h
    subst e
    exact rpl_drop n h4
theorem rpl_take {G : Gs} {μ : List Addr} {F : Hp} : ∀ {ds : List D} {vs : List V} (n : Nat), RpL G μ F ds vs → RpL G μ F (ds.take n) (vs.take n)
  | _, _, 0, h => rfl
  | [], _, n + 1, h => by have h : _ = _ := h; subst h; exact rfl
  | d :: ds, _, n + 1, h => by
    obtain ⟨v, r, e, h3, h4⟩ := h
    subst e
    exact ⟨v, r.take n, rfl, h3, rpl_take n h4⟩
theorem rpl_set {G : Gs} {μ : List Addr} {F : Hp} {d : D} {v : V} (q : Rp G μ F d v) : ∀ {ds : List D} {vs : List V} (n : Nat), RpL G μ F ds vs → RpL G μ F (ds.set n d) (vs.set n v)
  | [], _, n, h => by have h : _ = _ := h; subst h; exact rfl
  | c :: ds, _, 0, h => by
    obtain ⟨u, r, e, h3, h4⟩ := h
    subst e
    exact ⟨v, r, rfl, q, h4⟩
  | c :: ds, _, n + 1, h => by
    obtain ⟨u, r, e, h3, h4⟩ := h
    subst e
    exact ⟨u, r.set n v, rfl, h3, rpl_set q n h4⟩
theorem rpl_erase {G : Gs} {μ : List Addr} {F : Hp} : ∀ {ds : List D} {vs : List V} (n : Nat), RpL G μ F ds vs → RpL G μ F (ds.eraseIdx n) (vs.eraseIdx n)
  | [], _, n, h => by have h : _ = _ := h; subst h; exact rfl
  | c :: ds, _, 0, h => by
    obtain ⟨u, r, e, h3, h4⟩ := h
    subst e
    exact h4
  | c :: ds, _, n + 1, h => by
    obtain ⟨u, r, e, h3, h4⟩ := h
    subst e
    exact ⟨u, r.eraseIdx n, rfl, h3, rpl_erase n h4⟩

/-! ### + of ints, texts, tuples (values); of lists (new ones) -/
def rAdd (K : PySem.W.Frag) : R2 := fun x y H Q => (rI0 (fun i j => .int (i + j)) x y H Q ∨ ∃ i j, x = .str i ∧ y = .str j ∧ i.length + j.length ≤ sizeLine ∧ Q (.str (i ++ j)) H) ∨ rCatA K x y H Q
theorem op_addA : OpR X (binaryOp .Add) (rAdd X.K) := OpR.or (OpR.or op_add op_add_str) op_catA
def addD (a b : D) : M D := match a, b with
  | .int i, .int j => pure (.int (i + j))
  | .str i, .str j => if i.length + j.length ≤ 16777216 then pure (.str (i ++ j)) else M.bad
  | .tup xs, .tup ys => if xs.length + ys.length ≤ 16777216 then pure (.tup (xs ++ ys)) else M.bad
  | _, _ => M.bad
theorem strOk_app {a b : Str} (h1 : PyData.strOk a = true) (h2 : PyData.strOk b = true) : PyData.strOk (a ++ b) = true := by
  unfold PyData.strOk at *
  show (a.cps ++ b.cps).all _ = true
  rw [Array.all_append, h1, h2]
  rfl
theorem len_app (a b : Str) : (a ++ b).length = a.length + b.length := by
  show (a.cps ++ b.cps).size = _
  rw [Array.size_append]
  rfl
theorem o2_add {ka kb : Kd} : Op2 (gs X cl) ka kb .val (rAdd X.K) addD := fun μ F H H1 H2 st d e v u Q s r1 r2 w => by
  unfold addD at w
  cases d <;> try exact w.elim
  · cases e <;> try exact w.elim
    exact .inl (.inl ⟨_, _, rk_int r1, rk_int r2, w _ μ F H .refl s rfl⟩)
  · cases e <;> try exact w.elim
    obtain ⟨hz, w⟩ := ite_gives w
    obtain ⟨rfl, o1⟩ := rk_str r1
    obtain ⟨rfl, o2⟩ := rk_str r2
    exact .inl (.inr ⟨_, _, rfl, rfl, by rw [sizeLine_eq]; exact hz, w _ μ F H .refl s ⟨rfl, okS_mk (by rw [len_app]; exact hz) (strOk_app (okS_ok o1) (okS_ok o2))⟩⟩)
  · cases e <;> try exact w.elim
    rename_i xs ys
    obtain ⟨hz, w⟩ := ite_gives w
    obtain ⟨z1, a, vs, rfl, q1, l1⟩ := rk_tup s.sub r1
    obtain ⟨z2, b, us, rfl, q2, l2⟩ := rk_tup s.sub r2
    have e1 := rpl_len l1
    have e2 := rpl_len l2
    refine .inr ⟨a, b, vs, us, rfl, rfl, s.sub.seqT q1, s.sub.seqT q2, by rw [e1, e2, sizeLine_eq]; exact hz, fun h0 => ?_, fun h0 h1 => ?_, fun h0 h1 p np => ?_⟩
    · subst h0
      have : xs = [] := List.eq_nil_of_length_eq_zero (by simpa using e1.symm)
      subst this
      exact w _ μ F H .refl s ⟨z2, b, us, rfl, q2, l2⟩
    · subst h1
      have : ys = [] := List.eq_nil_of_length_eq_zero (by simpa using e2.symm)
      subst this
      rw [List.append_nil] at w
      exact w _ μ F H .refl s ⟨z1, a, vs, rfl, q1, l1⟩
    · obtain ⟨p2, s2, rr⟩ := new_tup .refl s (rpl_app l1 l2) np (by rw [List.length_append, sizeLine_eq]; exact hz)
      exact w _ μ _ _ p2 s2 rr
def catD (a b : D) : M D := match a, b with
  | .lst xs, .lst ys => if xs.length + ys.length ≤ 16777216 then pure (.lst (xs ++ ys)) else M.bad
  | _, _ => M.bad
theorem o2_cat {ka kb : Kd} : Op2 (gs X cl) ka kb .fre rCat catD := fun μ F H H1 H2 st d e v u Q s r1 r2 w => by
  unfold catD at w
  cases d <;> try exact w.elim
  cases e <;> try exact w.elim
  obtain ⟨hz, w⟩ := ite_gives w
  obtain ⟨a, vs, rfl, q1, l1, z1⟩ := rk_lst s.sub r1
  obtain ⟨b, us, rfl, q2, l2, z2⟩ := rk_lst s.sub r2
  refine ⟨a, b, vs, us, rfl, rfl, q1, q2, by rw [rpl_len l1, rpl_len l2, sizeLine_eq]; exact hz, fun p np => ?_⟩
  obtain ⟨p2, s2, rr⟩ := new_lst .refl s (rpl_app l1 l2) np (by rw [List.length_append, sizeLine_eq]; exact hz)
  exact w _ μ _ _ p2 s2 rr
/-- a list times a small number -/
def repD (a b : D) : M D := match a, b with
  | .lst xs, .int k => if 0 ≤ k ∧ k ≤ 1000 ∧ xs.length ≤ 1000 then pure (.lst (List.replicate k.toNat xs).flatten) else M.bad
  | _, _ => M.bad
theorem o2_rep {ka kb : Kd} : Op2 (gs X cl) ka kb .fre rRep repD := fun μ F H H1 H2 st d e v u Q s r1 r2 w => by
  unfold repD at w
  cases d <;> try exact w.elim
  cases e <;> try exact w.elim
  rename_i xs k
  obtain ⟨⟨h0, h1, h2⟩, w⟩ := ite_gives w
  obtain ⟨a, vs, rfl, q1, l1, z1⟩ := rk_lst s.sub r1
  have ev := rpl_len l1
  have hb : xs.length * k.toNat ≤ 1000 * 1000 := Nat.mul_le_mul h2 (by omega)
  refine ⟨a, k, vs, rfl, rk_int r2, q1, by omega, by omega, by rw [ev, sizeLine_eq]; omega, fun p np => ?_⟩
  obtain ⟨p2, s2, rr⟩ := new_lst .refl s (rpl_rep l1 k.toNat) np (by rw [List.length_flatten, List.map_replicate, List.sum_replicate_nat, sizeLine_eq, Nat.mul_comm]; omega)
  exact w _ μ _ _ p2 s2 rr
def mulD (a b : D) : M D := arI mulC (fun i j => i * j) a b
theorem o2_mul {ka kb : Kd} : Op2 (gs X cl) ka kb .val (rI CMul fun i j => .int (i * j)) mulD := o2_arI fun i j h => of_decide_eq_true (p := (-(2 ^ 64) < i ∧ i < 2 ^ 64) ∨ (-(2 ^ 64) < j ∧ j < 2 ^ 64)) h
end
end Sh
namespace Sh
open PySem PySem.Spec PyProof.Rows L2
section
variable {cl : String → Option Addr} {md : List Md} {X : Cx}

/-! ### flat dicts: keys are ints and texts -/
def dgetK (kvs : List (D × D)) (q : Key) : Option D := (kvs.find? fun p => decide (p.1.key? = some q)).map (·.2)
theorem rpk_get {G : Gs} {μ : List Addr} {F : Hp} {q : Key} : ∀ {kvs : List (D × D)} {L : List (Key × V)}, RpK G μ F kvs L → match dgetK kvs q with
    | some d => ∃ v, valV L q = some v ∧ Rp G μ F d v
    | none => valV L q = none
  | [], _, h => by have h : _ = _ := h; subst h; rfl
  | (k, d) :: r, _, h => by
    obtain ⟨q', v, L', rfl, hk, _, hv, hr⟩ := h
    unfold dgetK
    rw [List.find?_cons]
    by_cases e : q' = q
    · subst e
      rw [hk]
      simp only [decide_true, Option.map_some]
      exact ⟨v, valV_pos rfl, hv⟩
    · have : decide ((k, d).1.key? = some q) = false := by rw [hk]; exact decide_eq_false fun z => e (Option.some.inj z)
      rw [this]
      have ih := rpk_get (q := q) hr
      unfold dgetK at ih
      rw [valV_neg (p := (q', v)) e]
      exact ih
theorem rpk_len {G : Gs} {μ : List Addr} {F : Hp} : ∀ {kvs : List (D × D)} {L : List (Key × V)}, RpK G μ F kvs L → L.length = kvs.length
  | [], _, h => by have h : _ = _ := h; subst h; rfl
  | (k, d) :: r, _, h => by
    obtain ⟨q', v, L', rfl, hk, _, hv, hr⟩ := h
    simp [rpk_len hr]
theorem key_v {G : Gs} {μ : List Addr} {F H : Hp} {d : D} {v : V} {q : Key} (e : d.key? = some q) (r : VR G μ F H d v) : v = kV q := by
  cases d <;> try cases e
  · rcases r with r | ⟨a, _, o⟩
    · exact r
    · exact o.elim
  · exact (vr_str r).1
/-! ### in -/
def rInP (K : PySem.W.Frag) (neg : Bool) : R2 := fun x y H Q => (∃ p ps, Dp K H x p ∧ (Dp K H y (.list ps) ∨ Dp K H y (.tuple ps)) ∧ p.canLay0 = true ∧ PyData.canLayAll0 ps = true ∧ min (PyData.depthAll ps) p.depth ≤ 64 ∧
    Q (.bl (if neg then !ps.any fun z => PyData.eqv z p else ps.any fun z => PyData.eqv z p)) H) ∨
  (∃ (c : Nat) (z : Str), x = .str ⟨#[c]⟩ ∧ y = .str z ∧ Q (.bl (if neg then !decide (c ∈ z.cps.toList) else decide (c ∈ z.cps.toList))) H) ∨
  ∃ a o, y = .ref a ∧ DGet H a x o ∧ Q (.bl (if neg then !o.isSome else o.isSome)) H
theorem op_inP (hu : X.A.units + 70 < cLine) : OpR X (compareOp .In) (rInP X.K false) := by
  intro pins s σ H x y v u Q I rx ry h
  rcases h with ⟨p, ps, hp, hq, c1, c2, hd, k⟩ | ⟨c, z, e1, e2, k⟩ | ⟨a, o, e, g, k⟩
  · obtain ⟨as, r1⟩ := Dp.reads I p x v hp rx
    rcases hq with hq | hq
    · obtain ⟨bs, r2⟩ := Dp.reads I _ y u hq ry
      exact SeqAt.in_list_reads r2 r1 c2 c1 (by omega) ⟨.bl _, H, I, rfl, k⟩
    · obtain ⟨bs, r2⟩ := Dp.reads I _ y u hq ry
      exact SeqAt.in_tuple_reads r2 r1 c2 c1 (by omega) ⟨.bl _, H, I, rfl, k⟩
  · exact op_in_sign pins s σ H x y v u Q I rx ry ⟨c, z, e1, e2, k⟩
  · subst e
    obtain rfl : u = Value.ref a := ry
    exact d_in (by omega) I g rx fun s' I' => ⟨.bl _, H, I', rfl, k⟩
theorem op_notInP (hu : X.A.units + 70 < cLine) : OpR X (compareOp .NotIn) (rInP X.K true) := by
  intro pins s σ H x y v u Q I rx ry h
  rcases h with ⟨p, ps, hp, hq, c1, c2, hd, k⟩ | ⟨c, z, e1, e2, k⟩ | ⟨a, o, e, g, k⟩
  · obtain ⟨as, r1⟩ := Dp.reads I p x v hp rx
    rcases hq with hq | hq
    · obtain ⟨bs, r2⟩ := Dp.reads I _ y u hq ry
      exact SeqAt.notIn_list_reads r2 r1 c2 c1 (by omega) ⟨.bl _, H, I, rfl, k⟩
    · obtain ⟨bs, r2⟩ := Dp.reads I _ y u hq ry
      exact SeqAt.notIn_tuple_reads r2 r1 c2 c1 (by omega) ⟨.bl _, H, I, rfl, k⟩
  · exact op_notIn_sign pins s σ H x y v u Q I rx ry ⟨c, z, e1, e2, k⟩
  · subst e
    obtain rfl : u = Value.ref a := ry
    exact d_notIn (by omega) I g rx fun s' I' => ⟨.bl _, H, I', rfl, k⟩
/-- membership; none where it is not told here -/
def inSeq (x : D) (ds : List D) : Option Bool := match x.py, pyL ds with
  | some p, some ps => if min (PyData.depthAll ps) p.depth ≤ 64 then some (ps.any fun z => PyData.eqv z p) else none
  | _, _ => none
def inB (x y : D) : Option Bool := match y with
  | .lst ds => inSeq x ds
  | .tup ds => inSeq x ds
  | .str z => match x with
    | .str ⟨⟨[c]⟩⟩ => some (decide (c ∈ z.cps.toList))
    | _ => none
  | .dic kvs => match x.key? with
    | some q => some (dgetK kvs q).isSome
    | none => none
  | _ => none
def inD (x y : D) : M D := do
  let y ← view y
  optB id (inB x y)
def notInD (x y : D) : M D := do
  let y ← view y
  optB not (inB x y)
theorem inSeq_some {x : D} {ds : List D} {k : Bool} (h : inSeq x ds = some k) : ∃ p ps, x.py = some p ∧ pyL ds = some ps ∧ min (PyData.depthAll ps) p.depth ≤ 64 ∧ (ps.any fun z => PyData.eqv z p) = k := by
  unfold inSeq at h
  cases e1 : x.py with
  | none => rw [e1] at h; cases h
  | some p =>
    cases e2 : pyL ds with
    | none => rw [e1, e2] at h; cases h
    | some ps =>
      rw [e1, e2] at h
      simp only at h
      split at h
      · cases h; exact ⟨p, ps, rfl, rfl, by assumption, rfl⟩
      · cases h
theorem seq_dp {G : Gs} {μ : List Addr} {F H : Hp} {ds : List D} {ps : List PyData} {v : V} {y : D} (hs : Sub F H) (ey : y = .lst ds ∨ y = .tup ds) (e : pyL ds = some ps) (r : VR G μ F H y v) : (Dp G.K H v (.list ps) ∨ Dp G.K H v (.tuple ps)) ∧ PyData.canLayAll0 ps = true := by
  rcases ey with rfl | rfl
  · have ep : (D.lst ds).py = some (.list ps) := by unfold D.py; rw [e]
    obtain ⟨h1, h2⟩ := vr_dp hs ep r
    exact ⟨.inl h1, by simpa [PyData.canLay0] using h2⟩
  · have ep : (D.tup ds).py = some (.tuple ps) := by unfold D.py; rw [e]
    obtain ⟨h1, h2⟩ := vr_dp hs ep r
    exact ⟨.inr h1, by simpa [PyData.canLay0] using h2⟩
theorem in_link {neg : Bool} {G : Gs} {μ : List Addr} {F H : Hp} {x y : D} {v u : V} {k : Bool} {Q : VK} (hs : Sub F H) (r1 : VR G μ F H x v) (r2 : VR G μ F H y u) (h : inB x y = some k) (q : Q (.bl (if neg then !k else k)) H) : rInP G.K neg v u H Q := by
  unfold inB at h
  cases y <;> try cases h
  · -- a text
    rename_i z
    cases x <;> try cases h
    rename_i t
    obtain ⟨⟨l⟩⟩ := t
    match l, h with
    | [c], h =>
      cases h
      exact .inr (.inl ⟨c, z, (vr_str r1).1, (vr_str r2).1, q⟩)
  · rename_i ds
    obtain ⟨p, ps, e1, e2, hd, ek⟩ := inSeq_some h
    obtain ⟨d1, c1⟩ := vr_dp hs e1 r1
    obtain ⟨d2, c2⟩ := seq_dp hs (.inl rfl) e2 r2
    exact .inl ⟨p, ps, d1, d2, c1, c2, hd, by rw [ek]; exact q⟩
  · rename_i ds
    obtain ⟨p, ps, e1, e2, hd, ek⟩ := inSeq_some h
    obtain ⟨d1, c1⟩ := vr_dp hs e1 r1
    obtain ⟨d2, c2⟩ := seq_dp hs (.inr rfl) e2 r2
    exact .inl ⟨p, ps, d1, d2, c1, c2, hd, by rw [ek]; exact q⟩
  · rename_i kvs
    cases ek : x.key? with
    | none => rw [ek] at h; cases h
    | some key =>
      rw [ek] at h
      simp only [Option.some.injEq] at h
      obtain ⟨z, a, L, rfl, hL, rk⟩ := vr_dic hs r2
      have ev := key_v ek r1
      subst ev
      refine .inr (.inr ⟨a, _, rfl, .k hL, ?_⟩)
      have g := rpk_get (q := key) rk
      cases e2 : dgetK kvs key with
      | none => rw [e2] at g h; rw [g]; subst h; exact q
      | some d => rw [e2] at g h; obtain ⟨v', e3, _⟩ := g; rw [e3]; subst h; exact q
theorem o2_in {ka kb : Kd} : Op2 (gs X cl) ka kb .val (rInP X.K false) inD := fun μ F H H1 H2 st d e v u Q s r1 r2 w => by
  unfold inD at w
  rw [M.gives_bind] at w
  obtain ⟨e', v2, w⟩ := view_gives s r2 w
  obtain ⟨k, h, w⟩ := optB_gives w
  exact in_link (neg := false) (G := gs X cl) s.sub (rk_vr r1) v2 h (by rw [if_neg Bool.false_ne_true]; exact w _ μ F H .refl s rfl)
theorem o2_notIn {ka kb : Kd} : Op2 (gs X cl) ka kb .val (rInP X.K true) notInD := fun μ F H H1 H2 st d e v u Q s r1 r2 w => by
  unfold notInD at w
  rw [M.gives_bind] at w
  obtain ⟨e', v2, w⟩ := view_gives s r2 w
  obtain ⟨k, h, w⟩ := optB_gives w
  exact in_link (neg := true) (G := gs X cl) s.sub (rk_vr r1) v2 h (by rw [if_pos rfl]; exact w _ μ F H .refl s rfl)
end
end Sh
namespace Sh
open PySem PySem.Spec PyProof.Rows L2
/-- two data, or two lists of unlike lengths -/
def rEqL (K : PySem.W.Frag) : R2 := fun x y H Q => rEqP K false x y H Q ∨ ∃ a b xs ys, x = .ref a ∧ y = .ref b ∧ SqL K H a xs ∧ SqL K H b ys ∧ xs.length ≠ ys.length ∧ Q (.bl false) H
section
variable {cl : String → Option Addr} {md : List Md} {X : Cx}
theorem op_eqL (hu : X.A.units + 64 < cLine) : OpR X (compareOp .Eq) (rEqL X.K) := by
  intro pins s σ H x y v u Q I rx ry h
  rcases h with h | ⟨a, b, xs, ys, rfl, rfl, ha, hb, hne, q⟩
  · exact op_eqP hu pins s σ H x y v u Q I rx ry h
  · cases rx
    cases ry
    obtain ⟨i1, r1, p1, _⟩ := I.list ha
    obtain ⟨i2, r2, p2, _⟩ := I.list hb
    refine SeqAt.RcAt.lists_lengths p1.isList p2.isList ?_ (by omega) X.prog X.w X.xe _ ⟨.bl false, H, I, rfl, q⟩
    have h1 := r1.length
    have h2 := r2.length
    simp only [List.size_toArray, bne_iff_ne, ne_eq]
    omega
/-- == against a list: by the length, where it tells -/
def eqLB (a b : D) : Option Bool := match a, b with
  | .lst xs, .lst ys => if xs.length = ys.length then eqB a b else some false
  | _, _ => eqB a b
def eqLD (a b : D) : M D := do
  let x ← view a
  let y ← view b
  optB id (eqLB x y)
theorem o2_eqL {ka kb : Kd} : Op2 (gs X cl) ka kb .val (rEqL X.K) eqLD := fun μ F H H1 H2 st d e v u Q s r1 r2 w => by
  unfold eqLD at w
  rw [M.gives_bind] at w
  obtain ⟨d', v1, w⟩ := view_gives s r1 w
  rw [M.gives_bind] at w
  obtain ⟨e', v2, w⟩ := view_gives s r2 w
  obtain ⟨k, h, w⟩ := optB_gives w
  have old : eqB d' e' = some k → rEqL X.K v u H Q := fun h => by
    obtain ⟨p, q, e1, e2, hd, ek⟩ := eqB_some h
    obtain ⟨d1, c1⟩ := vr_dp s.sub e1 v1
    obtain ⟨d2, c2⟩ := vr_dp s.sub e2 v2
    exact .inl ⟨p, q, d1, d2, c1, c2, hd, by rw [if_neg Bool.false_ne_true, ek]; exact w _ μ F H .refl s rfl⟩
  unfold eqLB at h
  split at h
  · split at h
    · exact old h
    · rename_i xs ys hne
      cases h
      obtain ⟨a, vs, rfl, hq, rl, _⟩ := vr_lst s.sub v1
      obtain ⟨b, us, rfl, hq2, rl2, _⟩ := vr_lst s.sub v2
      exact .inr ⟨a, b, vs, us, rfl, rfl, .inl (.inl hq), .inl (.inl hq2), by rw [rpl_len rl, rpl_len rl2]; exact hne, w _ μ F H .refl s rfl⟩
  · exact old h
end
end Sh
namespace Sh
open PySem PySem.Spec PyProof.Rows L2

/-! ### defs whose callers stand in no repr -/
/-- the promise of a def, kept wherever no container is being shown -/
structure FnG (P : Program) (w : World) (K : PySem.W.Frag) (mg : Str → Option Value) (base : Heap) (CX : CXT) (k : Nat) (f : Addr) (fd : FuncData) (ps : List Str) (sp : Sp) : Prop where
  glen : ∀ vs H Q E, sp vs H Q E → vs.length = ps.length
  grun : ∀ (A : Around) (outer : List PySem.Env) (s : Shared) (H : Hp) (args : Args) (us : List Value) (vs : List V) (Q : VK) (E : XK), A.guards = some [] → Room k A → Env0 P w K mg base A outer s H →
    BindsTo s fd args (ps.zip us) → Vals vs us → sp vs H Q E → codeAny (model P w) A (.call (.ref f) args) (CR CX outer P w H s Q E) s
theorem FnG.of {P : Program} {w : World} {K : PySem.W.Frag} {mg : Str → Option Value} {base : Heap} {CX : CXT} {k : Nat} {f : Addr} {fd : FuncData} {ps : List Str} {sp : Sp} (F : FnOk P w K mg base CX k f fd ps sp) : FnG P w K mg base CX k f fd ps sp :=
  ⟨F.len, fun A o s H ar us vs Q E _ => F.run A o s H ar us vs Q E⟩
theorem FnG.up {P : Program} {w : World} {K : PySem.W.Frag} {mg : Str → Option Value} {base : Heap} {CX : CXT} {j k : Nat} {f : Addr} {fd : FuncData} {ps : List Str} {sp : Sp} (F : FnG P w K mg base CX j f fd ps sp) (h : j ≤ k) : FnG P w K mg base CX k f fd ps sp :=
  ⟨F.glen, fun A o s H ar us vs Q E hg hr => F.grun A o s H ar us vs Q E hg (hr.mono h)⟩

section
variable {P : Program} {w : World} {K : PySem.W.Frag} {mg : Str → Option Value} {base : Heap} {CX : CXT} {k : Nat} {sp : Sp}
/-- the body's walk gives the promise -/
theorem fnG_body {x qual : Str} {st : Stmt} {f : Addr} {fd : FuncData} {N ps : List Str} (F : Fun K x qual st f fd) (S : FnScope N ps (defScope st)) (len : ∀ vs H Q E, sp vs H Q E → vs.length = ps.length)
    (hbody : ∀ (cdv : Value) (A : Around) (outer : List PySem.Env) (s0 : Shared) (H : Hp) (vs : List V) (Q : VK) (E : XK), A.guards = some [] → Room k (A.deeper (envOfC qual (defScope st) s0.heap.objs.size f cdv)) → sp vs H Q E →
      ∃ t, PSs (cxOf CX P w K mg base N qual (defScope st) f cdv A outer s0 H E) (defBody st) t ∧ t { nx := fun _ H' => Q .non H', rt := Q } (L2.start N vs) H) : FnG P w K mg base CX (k + 1) f fd ps sp := by
  obtain ⟨oc, od, kV, doc, pm, an, cdv, ct, osl, rfl, lk, hcd⟩ := F.ex
  refine ⟨len, fun A outer s H args us vs Q E hg hr e0 hb r hsp => ?_⟩
  have stay : ∀ (b : Addr) (o : Obj), base.get? b = some o → s.heap.get? b = some o := fun b o e => (e0.bs b o e).1
  have hlen := len _ _ _ _ hsp
  have hin : K.In s.heap := e0.mod.kin.keeps stay
  have par : ∀ y ∈ ps.zip us, (defScope st).names.lookup y.1 = some .local ∨ ((defScope st).names.lookup y.1 = some .cell ∧ ((cellsFrom (s.heap.objs.size + 1) (defScope st).names []).lookup y.1).isSome = true) := by
    rintro ⟨n, v⟩ hy
    exact (S.par n (List.of_mem_zip hy).1).imp id fun q => ⟨q, PySem.W.cellsFrom_some _ _ _ (.inl q)⟩
  refine codeAny_call_function hr.depth (hin _ _ lk) rfl S.co S.gen rfl (PySem.W.codeRec_of hin hcd) (hb _ _ _ _ (wpAny_newFunctionEnv_cells S.kind par fun env he s1 x => ?_))
  subst he
  refine ⟨(e0.mod.nolimit.keeps stay).keeps x.toInCall.keep, codeAny_func ?_⟩
  obtain ⟨t, ht, hq⟩ := hbody cdv A outer s H vs Q E hg (hr.deeper _) hsp
  refine wpAny_mono (ht.run [] s1 (L2.start N vs) H _ (inv_start S hr.hd e0 hlen r x) hq) (fun fl s' hs => ?_) fun _ _ hs => hs
  cases fl with
  | next => obtain ⟨_, H', J, q⟩ := hs; exact ⟨.non, H', J.os, J.bare, J.base, J.hok, rfl, q⟩
  | ret u => obtain ⟨v, _, H', J, rv, q⟩ := hs; exact ⟨v, H', J.os, J.bare, J.base, J.hok, rv, q⟩
  | brk => exact hs.elim fun _ z => z.elim fun _ z => z.2.elim
  | cont => exact hs.elim fun _ z => z.elim fun _ z => z.2.elim
end

section
variable {X : Cx} {CX : CXT} {k : Nat} {f : Addr} {fd : FuncData} {ps : List Str} {sp : Sp} {ds : List Value} {dvs : List V} {E : XK}
theorem runG {pins : List (Addr × Obj)} {σ : L2.St} {H : Hp} {s : Shared} {Q : VK} {us : List Value} {vs : List V} (F : FnG X.prog X.w X.K X.mg X.base CX k f fd ps sp) (hgu : X.A.guards = some []) (hr : Room k X.A) (hb : Binds X.K fd ps ds) (hd : Vals dvs ds) (hx : Passes CX X E)
    (I : Inv X pins σ H s) (r : Vals vs us) (h : sp (vs ++ dvs) H Q E) : wpAny (model X.prog X.w) X.A (call (.ref f) us) (EP X pins σ Q) X.xe s := by
  have rr := r.append hd
  refine wpAny_call (codeAny_mono (F.grun X.A X.stack s H ⟨us, []⟩ (us ++ ds) (vs ++ dvs) Q E hgu hr I.env0 (hb s us I.kIn (by rw [← rr.length]; exact F.glen _ _ _ _ h)) rr h) fun res s' hq => ?_)
  match res, hq with
  | .error e, hq => exact hx pins σ H s e s' I hq
  | .ok (.ret u), hq => exact I.after hq
theorem pe_callG {x : Str} {p pos : Pos} {e : Expr} {es : List Expr} {t : TA} (F : FnG X.prog X.w X.K X.mg X.base CX k f fd ps sp) (hgu : X.A.guards = some []) (hr : Room k X.A) (hg : Gl X x) (hm : X.mg x = some (.ref f)) (hk : PySem.W.keepIn X.K (.ref f) = true) (hb : Binds X.K fd ps ds) (hd : Vals dvs ds) (hx : Passes CX X E)
    (ha : PA X (e :: es) t) (hdb : (x == ("__debug__" : Str)) = false := by decide) (he : starEach (e :: es) X.env = (false, eval e X.env) :: starEach es X.env := by rfl) (hpl : (backTo pos (starEach es X.env)).any (·.1) = false := by rfl) :
    PE X (.Call (.Name x p) (e :: es) [] pos) (tCall sp dvs E t) :=
  ⟨fun pins s σ H Q I h => wpAny_Call_Name_kw (ld_glob I hg hm (PySem.W.callWith_K (h₀ := X.base) I.ok.mod.kin hk (thn (ha.run pos pins s σ H _ I h) fun us s1 ⟨vs, H1, I1, r, q⟩ => ⟨I1.kIn, runG F hgu hr hb hd hx I1 r q⟩) he hpl) hdb)⟩
end

section
variable {cl : String → Option Addr} {md : List Md} {X : Cx}
theorem sk_callG {pk : List Kd} {rk : Kd} {f : List D → M D} {k : Nat} {a : Addr} {fd : FuncData} {ps : List Str} {x : Str} {p pos : Pos} {e : Expr} {es : List Expr} {m : Env → M (List D)}
    (F : FnG X.prog X.w X.K X.mg X.base CX0 k a fd ps (spF (gs X cl) pk rk f)) (hgu : X.A.guards = some []) (hr : Room k X.A) (hg : Gl X x) (hm : X.mg x = some (.ref a)) (hk : PySem.W.keepIn X.K (.ref a) = true) (hb : Binds X.K fd ps [])
    (ha : SA cl md X pk (e :: es) m) (hfr : ∀ k ∈ pk, k ≠ .fre) (hdb : (x == ("__debug__" : Str)) = false := by decide) (he : starEach (e :: es) X.env = (false, eval e X.env) :: starEach es X.env := by rfl) (hpl : (backTo pos (starEach es X.env)).any (·.1) = false := by rfl) :
    SK cl md X rk (.Call (.Name x p) (e :: es) [] pos) (fun ρ => do let ds ← m ρ; f ds) := PE.mono (pe_callG (E := E0) F hgu hr hg hm hk hb .nil pass0 ha hdb he hpl) fun σ H Q ⟨ρ, μ, F, st, hE, hS, w⟩ => by
  refine ⟨ρ, μ, F, st, hE, hS, ?_⟩
  rw [M.gives_bind] at w
  refine M.gives_mono w fun ds st1 w1 vs μ1 F1 H1 p1 s1 ⟨l1, l2, r1⟩ => ?_
  refine ⟨μ1, F1, ds, st1, s1, l1, by simpa using l2, fun i k d v e1 e2 e3 => ?_, M.gives_mono w1 fun d st2 w2 => w2.after p1⟩
  have q := r1 i k d v e1 e2 (by simpa using e3)
  cases k with
  | val => exact q
  | bor => exact q
  | fre => exact absurd rfl (hfr _ (List.mem_of_getElem? e1))
/-- THE RULE for a def that shows things: its body's judgement -/
theorem fn_okG {P : Program} {w : World} {K : PySem.W.Frag} {mg : Str → Option Value} {base : Heap} {x qual : Str} {s : Stmt} {f : Addr} {fd : FuncData} {N ps : List Str} {k : Nat} {pk : List Kd} {rk : Kd} {m : MS}
    (F : Fun K x qual s f fd) (S : FnScope N ps (defScope s)) (hl : pk.length = ps.length) (hm : mdOk md pk N.length = true)
    (hbody : ∀ (cdv : Value) (A : Around) (outer : List PySem.Env) (s0 : Shared) (H : Hp) (E : XK) (B : Bs), B.rk = rk → A.guards = some [] → Room k (A.deeper (envOfC qual (defScope s) s0.heap.objs.size f cdv)) →
      SSs cl md B (cxOf CX0 P w K mg base N qual (defScope s) f cdv A outer s0 H E).nox (defBody s) m) : FnG P w K mg base CX0 (k + 1) f fd ps (spF ⟨K, cl⟩ pk rk (runB N.length rk m)) := by
  refine fnG_body F S (fun vs H Q E h => ?_) (fun cdv A outer s0 H vs Q E hgu hr h => ?_)
  · obtain ⟨_, _, _, _, _, _, l2, _⟩ := h
    exact l2.trans hl
  · obtain ⟨μ, F, ds, st, hS, l1, l2, r, w⟩ := h
    refine ⟨_, (hbody cdv A outer s0 H E ⟨μ, F, H, rk⟩ rfl hgu hr).nox, envOf N.length ds, μ, F, st, sit_start hm hS l1 l2 r, ?_⟩
    unfold runB at w
    rw [M.gives_bind] at w
    refine M.gives_mono w fun rr st1 w1 => ?_
    obtain ⟨fl, ρ⟩ := rr
    cases fl
    · cases rk
      · exact fun σ' μ' F' H' s' _ _ => w1 .non μ' F' H' s'.post s'.sto rfl
      · exact w1.elim
      · exact w1.elim
    · exact w1.elim
    · exact w1.elim
    · exact fun v μ' F' H' p s r => w1 v μ' F' H' p s r
end
end Sh
namespace Sh
open PySem PySem.Spec PyProof.Rows L2

/-- the table of modules stands -/
def HasSys (h : Heap) : Prop := ∃ m, h.Ns sysModules m
/-- what a law's call gives -/
abbrev LawEnd (s₁ : Shared) : Result → Shared → Prop := fun r s' => r = .ok (.ret (.bool true)) ∧ OldK s₁.heap s'.heap ∧ s'.os = s₁.os ∧ AllBare s'.gens
section
variable {P : Program} {w : World} {K : PySem.W.Frag} {mg mb : Str → Option Value} {k : Nat} {fa a : Addr} {fd : FuncData} {x : Str} {sp : Sp} {s₁ : Shared} {vs : List Value} {ns : List Int}
/-- a law's def is called where at most the script is tracked (H) -/
theorem lawG_core (KX : K.In s₁.heap) (hns : s₁.heap.Ns mainGlobals mg) (hb : s₁.heap.Ns builtinsNs mb) (hbb : ∀ x : Str, x ≠ "__name__" → mb x = bootBuiltins x) (hlim : s₁.heap.NoLimit) (hg : s₁.gens = #[])
    (ha : s₁.heap.get? a = some { cls := .type "list", data := .seq vs.toArray }) (hr : Room k callerA)
    (hsys : HasSys s₁.heap) (F : ∀ base : Heap, K.In base → base.Ns mainGlobals mg → HasSys base → FnG P w K mg base CX0 k fa fd [x] sp) (hbind : ∀ (s : Shared) (u : Value), BindsTo s fd ⟨[u], []⟩ [(x, u)])
    {H : Hp} (hO : L2.Only H) (hok : HOk P w H s₁.heap) (hA : ∀ b, H b ≠ none → b = a) (hK : H a ≠ none → K.lookup a = none) (q : sp [.ref a] H (fun v _ => v = .bl true) fun _ _ _ => False) :
    codeAny (model P w) callerA (.call (.ref fa) ⟨[.ref a], []⟩) (LawEnd s₁) s₁ := by
  -- no tracked thing is a dict, none is of the written part
  have out : ∀ {b : Addr} {o : Obj}, s₁.heap.get? b = some o → (b = a → H a = none) → (hidT s₁.heap H).get? b = some o := fun {b o} e n => hidT_get e (by
    apply Classical.byContradiction
    intro z
    have eb := hA b z
    subst eb
    exact z (n rfl))
  have names : ∀ {b : Addr} {m : Str → Option Value}, s₁.heap.Ns b m → (hidT s₁.heap H).Ns b m := fun {b m} ⟨o, es, ep, e, d, r⟩ => ⟨o, es, ep, out e (fun eb => by
    subst eb
    rw [ha] at e
    cases e
    have z : Data.seq vs.toArray _ = Data.dict es ep := d
    cases z), d, r⟩
  have kin : K.In (hidT s₁.heap H) := fun b o e => out (KX b o e) fun eb => by
    subst eb
    apply Classical.byContradiction
    intro z
    rw [hK z] at e
    cases e
  have mod : Mod K mg (hidT s₁.heap H) := ⟨kin, names hns, ⟨mb, names hb, hbb⟩, hlim.elim fun mc h => ⟨mc, names h.1, h.2⟩⟩
  refine codeAny_mono ((F _ kin (names hns) (hsys.elim fun m h => ⟨m, names h⟩)).grun callerA [] s₁ H ⟨[.ref a], []⟩ [.ref a] [.ref a] _ _ rfl hr ⟨rfl, mod, fun b o e => of_hidT e, Nat.le_of_eq (hidT_size _ _), trivial, (fun b hb => absurd (show b ∈ ([] : List Addr) from hb) (by simp)), hok, .of_eq hg⟩ (hbind s₁ (.ref a)) (.cons rfl .nil) q) fun r s' h => ?_
  match r, h with
  | .ok (.ret u), ⟨v, H', os, bare, un, hok', r', q'⟩ =>
    have q' : v = .bl true := q'
    subst q'
    obtain rfl : u = Value.bool true := r'
    refine ⟨rfl, OldK.of_keep fun b o e => ?_, os, bare⟩
    rcases hO b with z | ⟨ob, xs, z⟩
    · exact un.keep b o e z (fun y => absurd (show b ∈ ([] : List Addr) from y) (by simp)) (by simp)
    · have e1 := (hok b _ z).1
      have e2 := (hok' b _ (un.frzs b ob _ z)).1
      rw [e] at e1
      cases e1
      exact e2
theorem lawG_call (KX : K.In s₁.heap) (hns : s₁.heap.Ns mainGlobals mg) (hb : s₁.heap.Ns builtinsNs mb) (hbb : ∀ x : Str, x ≠ "__name__" → mb x = bootBuiltins x) (hlim : s₁.heap.NoLimit) (hg : s₁.gens = #[])
    (ha : s₁.heap.get? a = some { cls := .type "list", data := .seq vs.toArray }) (hi : IntsAre vs ns) (hl : ns.length ≤ sizeLine) (hr : Room k callerA)
    (hsys : HasSys s₁.heap) (F : ∀ base : Heap, K.In base → base.Ns mainGlobals mg → HasSys base → FnG P w K mg base CX0 k fa fd [x] sp) (hbind : ∀ (s : Shared) (u : Value), BindsTo s fd ⟨[u], []⟩ [(x, u)])
    (hsp : ∀ H : Hp, L2.Only H → SqL K H a (ns.map V.int) → sp [.ref a] H (fun v _ => v = .bl true) fun _ _ _ => False) :
    codeAny (model P w) callerA (.call (.ref fa) ⟨[.ref a], []⟩) (LawEnd s₁) s₁ := by
  have rv := vals_ints hi
  cases hk : K.lookup a with
  | some o =>
    have e := KX a o hk
    rw [ha] at e
    cases e
    have hO : L2.Only (fun _ => none) := fun _ => .inl rfl
    exact lawG_core KX hns hb hbb hlim hg ha hr hsys F hbind hO (fun b u z => nomatch z) (fun b z => absurd rfl z) (fun z => absurd rfl z)
      (hsp _ hO (.inr ⟨_, vs.toArray, _, hk, rfl, rfl, rfl, by rw [List.size_toArray, hi.length]; exact hl, by simpa using rv⟩))
  | none =>
    let H : Hp := fun b => if b = a then some (.frz { cls := .type "list", data := .seq vs.toArray } (.lst (ns.map V.int))) else none
    have at_ : H a = some (.frz { cls := .type "list", data := .seq vs.toArray } (.lst (ns.map V.int))) := if_pos rfl
    have off : ∀ b, b ≠ a → H b = none := fun b n => if_neg n
    have hO : L2.Only H := fun b => (Classical.em (b = a)).elim (fun e => .inr ⟨_, _, e ▸ at_⟩) fun n => .inl (off b n)
    have hA : ∀ b, H b ≠ none → b = a := fun b z => Classical.byContradiction fun n => z (off b n)
    refine lawG_core KX hns hb hbb hlim hg ha hr hsys F hbind hO (fun b u z => ?_) hA (fun _ => hk) (hsp H hO (.inl (.inr ⟨_, at_⟩)))
    have eb := hA b (by rw [z]; simp)
    subst eb
    rw [at_] at z
    cases z
    exact ⟨ha, by rw [List.length_map]; exact hl, vs, _, rv, ha⟩
end
theorem sys_of {h : Heap} (x : h.NoSeer) : HasSys h := by
  obtain ⟨_, ⟨m, hm, _⟩⟩ := x
  exact ⟨m, hm⟩
/-- the goal that k_head leaves (case hc), from the promise of the law's def -/
theorem walkG {l : PySem.W.OpenLaw} {n k : Nat} {q : Program} {loose : List Str} {XP : (Str → Option Value) → Heap → Prop} {YP : World → Heap → Prop} {d : DefRec} {K : Params → PySem.W.Frag} {sp : World → Sp} {x : Str}
    (hn : l.most = some n) (hn2 : n ≤ sizeLine) (hdf : d.params.defaults = []) (hr : Room k callerA) (hq : importsNone q = true) (hY : ∀ (w : World) (h : Heap), YP w h → (K w.params).In h)
    (F : ∀ (w : World) (mg : Str → Option Value) (fa : Addr) (h : Heap), (K w.params).In h → h.Ns mainGlobals mg → mg d.name = some (.ref fa) →
      ∃ fd : FuncData, (∀ (s : Shared) (u : Value), BindsTo s fd ⟨[u], []⟩ [(x, u)]) ∧ ∀ base : Heap, (K w.params).In base → base.Ns mainGlobals mg → HasSys base → FnG l.prog w (K w.params) mg base CX0 k fa fd [x] (sp w))
    (hsp : ∀ (w : World) (H : Hp) (a : Addr) (ns : List Int), ns.length ≤ n → L2.Only H → SqL (K w.params) H a (ns.map V.int) → sp w [.ref a] H (fun v _ => v = .bl true) fun _ _ _ => False) :
    PySem.W.WalkO q loose XP YP l.row.toRowW d [] (fun f vs => PySem.call f vs) := by
  refine Att.attach_call hn hdf fun w s₀ s₁ mg mb fa o pm cd doc a vs ns G Y ho hd hcd hmg hobj hints hlen hg => ?_
  obtain ⟨fd, hb, hF⟩ := F w mg fa _ (hY w _ Y) G.T.g hmg
  exact lawG_call (hY w _ Y) G.T.g G.T.b G.T.builtins G.T.nolimit hg hobj hints (Nat.le_trans hlen hn2) hr (sys_of (G.T.seer hq)) hF hb fun H hO hS => hsp w H a ns hlen hO hS
/-- the script as the law's parameter -/
theorem law_start {K : PySem.W.Frag} {cl : String → Option Addr} {m : List D → M D} {a : Addr} {ns : List Int} {H : Hp} (hl : ns.length ≤ 63) (hO : L2.Only H) (hS : SqL K H a (ns.map V.int)) (h : (m [.frl (ns.map .int)]).gives [] fun d _ => d = .bl true) :
    spF ⟨K, cl⟩ [.val] .val m [.ref a] H (fun v _ => v = .bl true) fun _ _ _ => False := by
  have hlen : ([.frl (ns.map .int)] : List D).length = 1 := rfl
  refine ⟨[], H, [.frl (ns.map .int)], [], ⟨Sub.refl _, rfl, List.nodup_nil, fun l a d e => by simp at e⟩, rfl, rfl, fun i k d v e1 e2 e3 => ?_, M.gives_mono h fun d st e => ?_⟩
  · cases i with
    | succ i => simp at e1
    | zero =>
      simp only [List.getElem?_cons_zero, Option.some.injEq] at e1 e2 e3
      subst e1 e2 e3
      refine ⟨by rw [List.length_map, sizeLine_eq]; omega, a, ns.map V.int, rfl, hS, ?_⟩
      have all : ∀ ns : List Int, RpL ⟨K, cl⟩ [] H (ns.map .int) (ns.map V.int) := fun ns => by
        induction ns with
        | nil => exact rfl
        | cons n r ih => exact ⟨.int n, r.map V.int, rfl, rfl, ih⟩
      exact all ns
  · subst e
    exact fun v μ' F' H' p s r => r
end Sh
namespace Sh
open PySem PySem.Spec PyProof.Rows L2

/-! ### what is shown: data with flat dicts -/
def keyPy : D → Option PyData
  | .int i => some (.int i)
  | .str s => some (.str s)
  | _ => none
mutual
def D.pyR : D → Option PyData
  | .non => some .none
  | .bl b => some (.bool b)
  | .int i => some (.int i)
  | .str s => some (.str s)
  | .lst ds => match pyRL ds with
    | some ps => some (.list ps)
    | none => none
  | .tup ds => match pyRL ds with
    | some ps => some (.tuple ps)
    | none => none
  | .dic kvs => match pyRK kvs with
    | some ps => some (.dict ps)
    | none => none
  | .obj _ _ => none
  | .dit _ => none
  | .ref _ => none
  | .frl _ => none
def pyRL : List D → Option (List PyData)
  | [] => some []
  | d :: ds => match d.pyR, pyRL ds with
    | some p, some ps => some (p :: ps)
    | _, _ => none
def pyRK : List (D × D) → Option (List (PyData × PyData))
  | [] => some []
  | (k, d) :: r => match keyPy k, d.pyR, pyRK r with
    | some q, some p, some ps => some ((q, p) :: ps)
    | _, _, _ => none
end
theorem all_cons {h : Heap} {v : Value} {vs : List Value} {d : PyData} {ds : List PyData} {as bs : List Addr} {z : Addr} (h1 : Reads h v d as) (n1 : z ∉ as) (h2 : ReadsAll h vs ds bs) (n2 : z ∉ bs) : ∃ cs, ReadsAll h (v :: vs) (d :: ds) cs ∧ z ∉ cs :=
  ⟨_, .cons h1 h2, fun q => (List.mem_append.mp q).elim n1 n2⟩
section
variable {G : Gs} {μ : List Addr} {F H : Hp} {X : Cx} {pins : List (Addr × Obj)} {σ : L2.St} {s : Shared}
theorem not_sys (I : Inv X pins σ H s) (hb : HasSys X.base) {a : Addr} {o : HO} (h : H a = some o) : a ≠ sysModules := fun e => by
  subst e
  obtain ⟨m, ob, _, _, q, _⟩ := hb
  have := (I.bs _ _ q).2
  rw [h] at this; cases this
theorem key_reads {k : D} {q : Key} {p : PyData} {u : Value} (e : k.key? = some q) (ep : keyPy k = some p) (h : keyIs q u = true) : Reads s.heap u p [] := by
  cases k <;> try (cases e; done)
  · cases e; cases ep
    rcases keyIs_shape h with ⟨i, t, e1, rfl⟩ | ⟨x, t, e1, _⟩
    · cases e1; exact .int _ t
    · cases e1
  · cases e; cases ep
    rcases keyIs_shape h with ⟨i, t, e1, _⟩ | ⟨x, t, e1, rfl⟩
    · cases e1
    · cases e1; exact .str _ t
mutual
theorem rp_reads (I : Inv X pins σ H s) (hG : G.K = X.K) (hb : HasSys X.base) (hs : Sub F H) : ∀ (d : D) (p : PyData) (v : V) (u : Value), d.pyR = some p → Rp G μ F d v → RelV v u → ∃ as, Reads s.heap u p as ∧ sysModules ∉ as
  | .non, p, v, u, e, r, ru => by cases e; cases r; cases ru; exact ⟨_, .none, by simp⟩
  | .bl b, p, v, u, e, r, ru => by cases e; cases r; cases ru; exact ⟨_, .bool b, by simp⟩
  | .int i, p, v, u, e, r, ru => by cases e; cases r; obtain ⟨t, rfl⟩ := ru; exact ⟨_, .int i t, by simp⟩
  | .str x, p, v, u, e, r, ru => by cases e; obtain ⟨rfl, _⟩ := r; obtain ⟨t, rfl⟩ := ru; exact ⟨_, .str x t, by simp⟩
  | .lst ds, p, v, u, e, r, ru => by
    unfold D.pyR at e
    obtain ⟨z, a, vs, rfl, hq, rl⟩ := r
    cases ru
    cases ep : pyRL ds with
    | none => rw [ep] at e; cases e
    | some ps =>
      rw [ep] at e; cases e
      have ha := hs _ _ hq
      obtain ⟨its, rv, ⟨o, n, ho, hc, _, hd⟩, _⟩ := I.list (.inl (.inl ha))
      obtain ⟨as, h1, h2⟩ := rpl_reads I hG hb hs ds ps vs its ep rl rv
      exact ⟨_, .list ho hc hd h1, fun q => (List.mem_cons.mp q).elim (fun q => not_sys I hb ha q.symm) h2⟩
  | .tup ds, p, v, u, e, r, ru => by
    unfold D.pyR at e
    obtain ⟨z, a, vs, rfl, hq, rl⟩ := r
    cases ru
    cases ep : pyRL ds with
    | none => rw [ep] at e; cases e
    | some ps =>
      rw [ep] at e; cases e
      rw [hG] at hq
      obtain ⟨its, rv, ⟨o, ho, hc, n, hd⟩, _⟩ := I.tuple (hs.seqT hq)
      obtain ⟨as, h1, h2⟩ := rpl_reads I hG hb hs ds ps vs its ep rl rv
      exact ⟨_, .tuple ho hc hd h1, h2⟩
  | .dic kvs, p, v, u, e, r, ru => by
    unfold D.pyR at e
    obtain ⟨z, a, L, rfl, hq, rl⟩ := r
    cases ru
    cases ep : pyRK kvs with
    | none => rw [ep] at e; cases e
    | some ps =>
      rw [ep] at e; cases e
      have ha := hs _ _ hq
      obtain ⟨_, _, vs, rel, o, es, n, h1, h2, h3, _, h5, _⟩ := dk_of I.hok ha
      obtain ⟨as, bs, r1, n1, r2, n2⟩ := rpk_reads I hG hb hs kvs ps L vs es.toList ep rl rel h5
      exact ⟨_, .dict h1 h2.1 h3 r1 r2, fun q => (List.mem_append.mp q).elim (fun q => (List.mem_cons.mp q).elim (fun q => not_sys I hb ha q.symm) n1) n2⟩
  | .obj _ _, p, v, u, e, r, ru => by cases e
  | .dit _, p, v, u, e, r, ru => by cases e
  | .ref _, p, v, u, e, r, ru => by cases e
  | .frl _, p, v, u, e, r, ru => by cases e
theorem rpl_reads (I : Inv X pins σ H s) (hG : G.K = X.K) (hb : HasSys X.base) (hs : Sub F H) : ∀ (ds : List D) (ps : List PyData) (vs : List V) (us : List Value), pyRL ds = some ps → RpL G μ F ds vs → Vals vs us → ∃ as, ReadsAll s.heap us ps as ∧ sysModules ∉ as
  | [], ps, vs, us, e, r, ru => by
    cases e
    have r : vs = [] := r
    subst r
    cases ru
    exact ⟨_, .nil, by simp⟩
  | d :: ds, ps, vs, us, e, r, ru => by
    unfold pyRL at e
    obtain ⟨v, vr, rfl, r1, r2⟩ := r
    cases e1 : d.pyR with
    | none => rw [e1] at e; cases e
    | some p =>
      cases e2 : pyRL ds with
      | none => rw [e1, e2] at e; cases e
      | some ps' =>
        rw [e1, e2] at e; cases e
        cases ru with
        | cons q1 q2 =>
          obtain ⟨as, a1, a2⟩ := rp_reads I hG hb hs d p v _ e1 r1 q1
          obtain ⟨bs, b1, b2⟩ := rpl_reads I hG hb hs ds ps' vr _ e2 r2 q2
          exact all_cons a1 a2 b1 b2
theorem rpk_reads (I : Inv X pins σ H s) (hG : G.K = X.K) (hb : HasSys X.base) (hs : Sub F H) : ∀ (kvs : List (D × D)) (ps : List (PyData × PyData)) (L : List (Key × V)) (vs : List (Key × Value)) (es : List DictEntry), pyRK kvs = some ps → RpK G μ F kvs L → KV L vs → Pairs (mixKind X.prog X.w) es vs →
    ∃ as bs, ReadsAll s.heap (es.map (·.key)) (ps.map (·.1)) as ∧ sysModules ∉ as ∧ ReadsAll s.heap (es.map (·.val)) (ps.map (·.2)) bs ∧ sysModules ∉ bs
  | [], ps, L, vs, es, e, r, rv, rp => by
    cases e
    have r : L = [] := r
    subst r
    cases rv
    cases rp
    exact ⟨_, _, .nil, by simp, .nil, by simp⟩
  | (k, d) :: kr, ps, L, vs, es, e, r, rv, rp => by
    unfold pyRK at e
    obtain ⟨q, v, L', rfl, hk, _, r1, r2⟩ := r
    cases e0 : keyPy k with
    | none => rw [e0] at e; cases e
    | some kp =>
      cases e1 : d.pyR with
      | none => rw [e0, e1] at e; cases e
      | some p =>
        cases e2 : pyRK kr with
        | none => rw [e0, e1, e2] at e; cases e
        | some ps' =>
          rw [e0, e1, e2] at e; cases e
          cases rv with
          | cons q1 q2 =>
            rename_i kv vr
            obtain ⟨k1, v1⟩ := kv
            obtain ⟨z1, z2⟩ := q1
            cases rp with
            | cons p1 p2 p3 =>
              rename_i en er
              have z1 : q = k1 := z1
              subst z1
              obtain ⟨as, a1, a2⟩ := rp_reads I hG hb hs d p v en.val e1 r1 (by rw [p2]; exact z2)
              obtain ⟨cs, bs, c1, c2, b1, b2⟩ := rpk_reads I hG hb hs kr ps' L' vr er e2 r2 q2 p3
              obtain ⟨x1, x2, x3⟩ := all_cons (key_reads hk e0 p1) (z := sysModules) (by simp) c1 c2
              obtain ⟨y1, y2, y3⟩ := all_cons a1 a2 b1 b2
              exact ⟨x1, y1, x2, x3, y2, y3⟩
end
end
/-! ### repr -/
def reprB (p : PyData) : Bool := p.showable && decide (p.shown.length ≤ 16777216) && decide (p.depth ≤ 150) && PyData.strOk p.shown
def reprD (d : D) : M D := do
  let x ← view d
  match x.pyR with
  | some p => if reprB p = true then pure (.str p.shown) else M.bad
  | none => M.bad
def rRepr (K : PySem.W.Frag) : List V → Hp → VK → Prop := fun xs H Q => ∃ (G : Gs) (μ : List Addr) (F : Hp) (d : D) (v : V) (p : PyData), G.K = K ∧ xs = [v] ∧ Sub F H ∧ VR G μ F H d v ∧ d.pyR = some p ∧ reprB p = true ∧ Q (.str p.shown) H
theorem vr_reads {G : Gs} {μ : List Addr} {F H : Hp} {X : Cx} {pins : List (Addr × Obj)} {σ : L2.St} {s : Shared} (I : Inv X pins σ H s) (hG : G.K = X.K) (hb : HasSys X.base) (hs : Sub F H) {d : D} {p : PyData} {v : V} {u : Value} (e : d.pyR = some p) (r : VR G μ F H d v) (ru : RelV v u) : ∃ as, Reads s.heap u p as ∧ sysModules ∉ as := by
  rcases r with r | ⟨a, rfl, o⟩
  · exact rp_reads I hG hb hs d p v u e r ru
  · cases ru
    cases d <;> try exact o.elim
    · rename_i ds
      obtain ⟨f, z, vs, ha, rl⟩ := o
      unfold D.pyR at e
      cases ep : pyRL ds with
      | none => rw [ep] at e; cases e
      | some ps =>
        rw [ep] at e; cases e
        obtain ⟨its, rv, ⟨o, n, ho, hc, _, hd⟩, _⟩ := I.list (.inl (.inl ha))
        obtain ⟨as, h1, h2⟩ := rpl_reads I hG hb hs ds ps vs its ep rl rv
        exact ⟨_, .list ho hc hd h1, fun q => (List.mem_cons.mp q).elim (fun q => not_sys I hb ha q.symm) h2⟩
    · rename_i kvs
      obtain ⟨f, z, L, ha, rl⟩ := o
      unfold D.pyR at e
      cases ep : pyRK kvs with
      | none => rw [ep] at e; cases e
      | some ps =>
        rw [ep] at e; cases e
        obtain ⟨_, _, vs, rel, o, es, n, h1, h2, h3, _, h5, _⟩ := dk_of I.hok ha
        obtain ⟨as, bs, r1, n1, r2, n2⟩ := rpk_reads I hG hb hs kvs ps L vs es.toList ep rl rel h5
        exact ⟨_, .dict h1 h2.1 h3 r1 r2, fun q => (List.mem_append.mp q).elim (fun q => (List.mem_cons.mp q).elim (fun q => not_sys I hb ha q.symm) n1) n2⟩
    · cases e
    · cases e
theorem call_reprR {X : Cx} (hsy : HasSys X.base) (hg : X.A.guards = some []) (hu : X.A.units + 151 < cLine) : CallR X (.builtin "repr") (rRepr X.K) := by
  intro pins s σ H xs us Q I r h
  obtain ⟨G, μ, F, d, v, p, hG, rfl, hs, vr, e, hb, q⟩ := h
  obtain ⟨u, rfl, ru⟩ := vals1 r
  obtain ⟨as, rd, ns⟩ := vr_reads I hG hsy hs e vr ru
  unfold reprB at hb
  simp only [Bool.and_eq_true, decide_eq_true_eq] at hb
  obtain ⟨⟨⟨h1, h2⟩, h3⟩, _⟩ := hb
  have h2' : p.shown.length ≤ sizeLine := by rw [sizeLine_eq]; exact h2
  have fin : ∀ h' u tk, (∀ b o, s.heap.get? b = some o → h'.get? b = some o) → EP X pins σ Q (.str p.shown u) { s with heap := h', toks := tk } := fun h' u tk k => ⟨.str p.shown, H, I.kept k, ⟨u, rfl⟩, q⟩
  cases rd with
  | none => exact PySem.P.repr_of_none (fin _ _ _ fun _ _ e => e)
  | bool b => exact PySem.P.repr_of_bool (fin _ _ _ fun _ _ e => e)
  | int i t => exact PySem.P.repr_of_int (by simpa [PyData.showable] using h1) (fin _ _ _ fun _ _ e => e)
  | str x t => exact PySem.P.repr_of_str (fin _ _ _ fun _ _ e => e) (by simpa only [PyData.shown] using h2')
  | list a1 a2 a3 a4 => exact repr_of_reads' (.list a1 a2 a3 a4) h1 (fun _ => ns) hg (by omega) (fun _ _ e => e) fin h2'
  | tuple a1 a2 a3 a4 => exact repr_of_reads' (.tuple a1 a2 a3 a4) h1 (fun _ => ns) hg (by omega) (fun _ _ e => e) fin h2'
  | dict a1 a2 a3 a4 a5 => exact repr_of_reads' (.dict a1 a2 a3 a4 a5) h1 (fun _ => ns) hg (by omega) (fun _ _ e => e) fin h2'

/-! ### a built-in with one argument, two -/
def Op1 (G : Gs) (ka kr : Kd) (r : List V → Hp → VK → Prop) (g : D → M D) : Prop :=
  ∀ (μ : List Addr) (F H H0 : Hp) (st : Sto) (d : D) (v : V) (Q : VK), StOk G μ F H st → RK G ka H0 μ F H d v → (g d).gives st (Want G kr μ F H Q) → r [v] H Q
section
variable {cl : String → Option Addr} {md : List Md} {X : Cx} {ka kb kr : Kd} {r : List V → Hp → VK → Prop} {g : D → M D} {x : Str} {p pos : Pos} {a b : Expr} {m n : Env → M D} {id T : String}
theorem op1_run (ho : Op1 (gs X cl) ka kr r g) {σ : L2.St} {H : Hp} {Q : VK} (h : tK (gs X cl) md kr (fun ρ => do let d ← m ρ; g d) σ H Q) : tCB r (tKL (gs X cl) md [ka] (fun ρ => do let x ← m ρ; pure [x])) σ H Q := by
  obtain ⟨ρ, μ, F, st, hE, hS, w⟩ := h
  rw [M.gives_bind] at w
  exact tkl_one hE hS (M.gives_mono w fun d st1 w1 v μ1 F1 H1 p1 s1 r1 => ho μ1 F1 H1 H st1 d v Q s1 r1 (M.gives_mono w1 fun e st2 w2 => w2.after p1))
theorem sk_b1 (hc : CallR X (.builtin id) r) (ho : Op1 (gs X cl) ka kr r g) (hg : Gl X x) (hm : X.mg x = none) (ha : SK cl md X ka a m) (hv : bootBuiltins x = some (.builtin id) := by rfl) (hn : x ≠ "__name__" := by decide) (hdb : (x == ("__debug__" : Str)) = false := by decide)
    (he : starEach [a] X.env = (false, eval a X.env) :: starEach [] X.env := by rfl) (hpl : (backTo pos (starEach ([] : List Expr) X.env)).any (·.1) = false := by rfl) : SK cl md X kr (.Call (.Name x p) [a] [] pos) (fun ρ => do let d ← m ρ; g d) :=
  PE.mono (pe_callB hc hg hm hv (sa_one ha he) hn hdb he hpl) fun _ _ _ h => op1_run ho h
theorem sk_t1 (hc : CallR X (.type T) r) (ho : Op1 (gs X cl) ka kr r g) (hg : Gl X x) (hm : X.mg x = none) (ha : SK cl md X ka a m) (hv : bootBuiltins x = some (.type T) := by rfl) (hn : x ≠ "__name__" := by decide) (hdb : (x == ("__debug__" : Str)) = false := by decide)
    (he : starEach [a] X.env = (false, eval a X.env) :: starEach [] X.env := by rfl) (hpl : (backTo pos (starEach ([] : List Expr) X.env)).any (·.1) = false := by rfl) : SK cl md X kr (.Call (.Name x p) [a] [] pos) (fun ρ => do let d ← m ρ; g d) :=
  PE.mono (pe_callTy hc hg hm hv (sa_one ha he) hn hdb he hpl) fun _ _ _ h => op1_run ho h
theorem sk_b2 {g2 : D → D → M D} (hc : CallR X (.builtin id) r) (ho : Op2 (gs X cl) ka kb kr (fun x y => r [x, y]) g2) (hg : Gl X x) (hm : X.mg x = none) (ha : SK cl md X ka a m) (hb : SK cl md X kb b n) (hv : bootBuiltins x = some (.builtin id) := by rfl) (hn : x ≠ "__name__" := by decide) (hdb : (x == ("__debug__" : Str)) = false := by decide)
    (h1 : starEach [a, b] X.env = (false, eval a X.env) :: starEach [b] X.env := by rfl) (h2 : starEach [b] X.env = [(false, eval b X.env)] := by rfl) (hpl : (backTo pos (starEach [b] X.env)).any (·.1) = false := by rfl) : SK cl md X kr (.Call (.Name x p) [a, b] [] pos) (fun ρ => do let d ← m ρ; let e ← n ρ; g2 d e) :=
  PE.mono (pe_callB hc hg hm hv (sa_cons ha (sa_one hb h2) h1) hn hdb h1 hpl) fun σ H Q ⟨ρ, μ, F, st, hE, hS, w⟩ => by
  refine ⟨ρ, μ, F, st, hE, hS, ?_⟩
  rw [M.gives_bind] at w ⊢
  refine M.gives_mono w fun d st1 w1 => ?_
  rw [M.gives_bind] at w1 ⊢
  show M.gives (n ρ >>= fun x => pure [x]) st1 _
  rw [M.gives_bind]
  refine M.gives_mono w1 fun e st2 w2 => ?_
  show WantL _ _ _ _ _ _ [d, e] st2
  intro us μ1 F1 H1 p1 s1 ⟨l1, l2, r1⟩
  match us, l2 with
  | [u, v], _ => exact ho μ1 F1 H1 H H st2 d e u v Q s1 (r1 0 ka d u rfl rfl rfl) (r1 1 kb e v rfl rfl rfl) (M.gives_mono w2 fun f st3 w3 => w3.after p1)
theorem o1_repr : Op1 (gs X cl) ka .val (rRepr X.K) reprD := fun μ F H H0 st d v Q s r w => by
  unfold reprD at w
  rw [M.gives_bind] at w
  obtain ⟨d', v1, w⟩ := view_gives s r w
  cases e : d'.pyR with
  | none => rw [e] at w; exact w.elim
  | some p =>
    rw [e] at w
    obtain ⟨hb, w⟩ := ite_gives w
    refine ⟨gs X cl, μ, F, d', v, p, rfl, rfl, s.sub, v1, e, hb, w _ μ F H .refl s ⟨rfl, ?_⟩⟩
    unfold reprB at hb
    simp only [Bool.and_eq_true, decide_eq_true_eq] at hb
    exact okS_mk hb.1.1.2 hb.2
end
end Sh
namespace Sh
open PySem PySem.Spec PyProof.Rows L2

section
variable {cl : String → Option Addr} {md : List Md} {X : Cx} {ka kb : Kd}
/-! ### len, abs, int, min -/
def lenD (d : D) : M D := do
  let x ← view d
  match x with
  | .lst ds => pure (.int ds.length)
  | .tup ds => pure (.int ds.length)
  | .frl ds => pure (.int ds.length)
  | .str s => pure (.int s.length)
  | _ => M.bad
theorem o1_len : Op1 (gs X cl) ka .val (fun xs H Q => ∃ x n, xs = [x] ∧ LenV X.K x H n ∧ Q (.int n) H) lenD := fun μ F H H0 st d v Q s r w => by
  unfold lenD at w
  rw [M.gives_bind] at w
  obtain ⟨d', vr, w⟩ := view_gives s r w
  cases d' <;> try exact w.elim
  · obtain ⟨rfl, ok⟩ := vr_str vr
    exact ⟨_, _, rfl, ⟨okS_len ok, rfl⟩, w _ μ F H .refl s rfl⟩
  · obtain ⟨a, vs, rfl, hq, rl, _⟩ := vr_lst s.sub vr
    exact ⟨_, vs.length, rfl, .inl ⟨vs, .inl (.inl hq), rfl⟩, by rw [rpl_len rl]; exact w _ μ F H .refl s rfl⟩
  · obtain ⟨_, a, vs, rfl, hq, rl⟩ := vr_tup vr
    exact ⟨_, vs.length, rfl, .inr ⟨vs, s.sub.seqT hq, rfl⟩, by rw [rpl_len rl]; exact w _ μ F H .refl s rfl⟩
  · obtain ⟨_, a, vs, rfl, hq, rl⟩ := vr_frl vr
    exact ⟨_, vs.length, rfl, .inl ⟨vs, s.sub.seqL hq, rfl⟩, by rw [rpl_len rl]; exact w _ μ F H .refl s rfl⟩
def absD : D → M D
  | .int i => pure (.int (if i < 0 then -i else i))
  | _ => M.bad
theorem o1_abs : Op1 (gs X cl) ka .val (fun xs H Q => ∃ i, xs = [.int i] ∧ Q (.int (if i < 0 then -i else i)) H) absD := fun μ F H H0 st d v Q s r w => by
  cases d <;> try exact w.elim
  have e := rk_int r
  subst e
  exact ⟨_, rfl, w _ μ F H .refl s rfl⟩
def intD : D → M D
  | .int i => pure (.int i)
  | .bl k => pure (.int (if k then 1 else 0))
  | _ => M.bad
theorem o1_int : Op1 (gs X cl) ka .val (fun xs H Q => (∃ i, xs = [.int i] ∧ Q (.int i) H) ∨ ∃ k, xs = [.bl k] ∧ Q (.int (if k then 1 else 0)) H) intD := fun μ F H H0 st d v Q s r w => by
  cases d <;> try exact w.elim
  · have e := rk_bl r
    subst e
    exact .inr ⟨_, rfl, w _ μ F H .refl s rfl⟩
  · have e := rk_int r
    subst e
    exact .inl ⟨_, rfl, w _ μ F H .refl s rfl⟩
def minD : D → D → M D
  | .int i, .int j => pure (.int (if j < i then j else i))
  | _, _ => M.bad
theorem o2_min : Op2 (gs X cl) ka kb .val (fun x y H Q => ∃ i j, [x, y] = [.int i, .int j] ∧ Q (.int (if j < i then j else i)) H) minD := fun μ F H H1 H2 st d e v u Q s r1 r2 w => by
  unfold minD at w
  cases d <;> try exact w.elim
  cases e <;> try exact w.elim
  have e1 := rk_int r1
  have e2 := rk_int r2
  subst e1 e2
  exact ⟨_, _, rfl, w _ μ F H .refl s rfl⟩
def negD : D → M D
  | .int i => pure (.int (-i))
  | _ => M.bad
theorem sk_neg {e : Expr} {pos : Pos} {m : Env → M D} (h : SK cl md X ka e m) : SK cl md X .val (.UnaryOp .USub e pos) (fun ρ => do let x ← m ρ; negD x) := PE.mono (pe_un un_neg h) fun σ H Q ⟨ρ, μ, F, st, hE, hS, w⟩ => by
  refine ⟨ρ, μ, F, st, hE, hS, ?_⟩
  rw [M.gives_bind] at w
  refine M.gives_mono w fun d st1 w1 v μ1 F1 H1 p1 s1 r1 => ?_
  cases d <;> try exact w1.elim
  exact ⟨_, rk_int r1, w1 _ μ1 F1 H1 p1 s1 rfl⟩

/-! ### list(x), tuple(x) -/
def listD (d : D) : M D := do
  let x ← view d
  match x with
  | .lst ds => pure (.lst ds)
  | .tup ds => pure (.lst ds)
  | .frl ds => pure (.lst ds)
  | _ => M.bad
theorem o1_list : Op1 (gs X cl) ka .fre (fun xs H Q => ∃ p ys, xs = [.ref p] ∧ (SqL X.K H p ys ∨ SqT X.K H p ys) ∧ ∀ l, H l = none → Q (.ref l) (upd H l (.lst ys))) listD := fun μ F H H0 st d v Q s r w => by
  unfold listD at w
  rw [M.gives_bind] at w
  obtain ⟨d', vr, w⟩ := view_gives s r w
  cases d' <;> try exact w.elim
  · obtain ⟨a, vs, rfl, hq, rl, z⟩ := vr_lst s.sub vr
    refine ⟨a, vs, rfl, .inl (.inl (.inl hq)), fun l hl => ?_⟩
    obtain ⟨p2, s2, r2⟩ := new_lst .refl s rl hl z
    exact w _ _ _ _ p2 s2 r2
  · obtain ⟨z, a, vs, rfl, hq, rl⟩ := vr_tup vr
    refine ⟨a, vs, rfl, .inr (s.sub.seqT hq), fun l hl => ?_⟩
    obtain ⟨p2, s2, r2⟩ := new_lst .refl s rl hl z
    exact w _ _ _ _ p2 s2 r2
  · obtain ⟨z, a, vs, rfl, hq, rl⟩ := vr_frl vr
    refine ⟨a, vs, rfl, .inl (s.sub.seqL hq), fun l hl => ?_⟩
    obtain ⟨p2, s2, r2⟩ := new_lst .refl s rl hl z
    exact w _ _ _ _ p2 s2 r2
def tupleD (d : D) : M D := do
  let x ← view d
  match x with
  | .lst ds => pure (.tup ds)
  | .tup ds => pure (.tup ds)
  | _ => M.bad
theorem o1_tuple : Op1 (gs X cl) ka .val (fun xs H Q => ∃ p ys, xs = [.ref p] ∧ ((SqL X.K H p ys ∧ ∀ l, H l = none → Q (.ref l) (upd H l (.tup ys))) ∨ (SqT X.K H p ys ∧ Q (.ref p) H))) tupleD := fun μ F H H0 st d v Q s r w => by
  unfold tupleD at w
  rw [M.gives_bind] at w
  obtain ⟨d', vr, w⟩ := view_gives s r w
  cases d' <;> try exact w.elim
  · obtain ⟨a, vs, rfl, hq, rl, z⟩ := vr_lst s.sub vr
    refine ⟨a, vs, rfl, .inl ⟨.inl (.inl hq), fun l hl => ?_⟩⟩
    obtain ⟨p2, s2, r2⟩ := new_tup .refl s rl hl z
    exact w _ _ _ _ p2 s2 r2
  · obtain ⟨z, a, vs, rfl, hq, rl⟩ := vr_tup vr
    exact ⟨a, vs, rfl, .inr ⟨s.sub.seqT hq, w _ μ F H .refl s ⟨z, a, vs, rfl, hq, rl⟩⟩⟩

/-! ### all, any of a list of bools -/
def blsOf : List D → Option (List Bool)
  | [] => some []
  | .bl b :: r => match blsOf r with
    | some bs => some (b :: bs)
    | none => none
  | _ :: _ => none
theorem rpl_bls {G : Gs} {μ : List Addr} {F : Hp} : ∀ {ds : List D} {bs : List Bool} {vs : List V}, blsOf ds = some bs → RpL G μ F ds vs → vs = bs.map V.bl
  | [], bs, vs, e, r => by
    cases e
    exact r
  | d :: ds, bs, vs, e, r => by
    cases d <;> try (cases e; done)
    unfold blsOf at e
    obtain ⟨v, vr, rfl, r1, r2⟩ := r
    cases e1 : blsOf ds with
    | none => rw [e1] at e; cases e
    | some bs' =>
      rw [e1] at e; cases e
      have r1 : v = _ := r1
      rw [r1, rpl_bls e1 r2]
      rfl
def quantD (f : List Bool → Bool) (d : D) : M D := do
  let x ← view d
  match x with
  | .lst ds => match blsOf ds with
    | some bs => pure (.bl (f bs))
    | none => M.bad
  | _ => M.bad
theorem quant_gives {f : List Bool → Bool} {G : Gs} {μ : List Addr} {F H H0 : Hp} {st : Sto} {d : D} {v : V} {P : D → Sto → Prop} (s : StOk G μ F H st) (r : RK G ka H0 μ F H d v) (w : (quantD f d).gives st P) : ∃ a bs, v = .ref a ∧ SqL G.K H a (bs.map V.bl) ∧ P (.bl (f bs)) st := by
  unfold quantD at w
  rw [M.gives_bind] at w
  obtain ⟨d', vr, w⟩ := view_gives s r w
  cases d' <;> try exact w.elim
  rename_i ds
  obtain ⟨a, vs, rfl, hq, rl, z⟩ := vr_lst s.sub vr
  cases e : blsOf ds with
  | none => simp only [e] at w; exact w.elim
  | some bs =>
    simp only [e] at w
    have ev := rpl_bls e rl
    subst ev
    exact ⟨a, bs, rfl, .inl (.inl hq), w⟩
def allB (bs : List Bool) : Bool := bs.all id
def anyB (bs : List Bool) : Bool := bs.any id
theorem o1_all : Op1 (gs X cl) ka .val (rAll X.K) (quantD allB) := fun μ F H H0 st d v Q s r w => by
  obtain ⟨a, bs, rfl, h, w⟩ := quant_gives s r w
  exact ⟨a, bs, rfl, h, w _ μ F H .refl s rfl⟩
theorem o1_any : Op1 (gs X cl) ka .val (rAny X.K) (quantD anyB) := fun μ F H H0 st d v Q s r w => by
  obtain ⟨a, bs, rfl, h, w⟩ := quant_gives s r w
  exact ⟨a, bs, rfl, h, w _ μ F H .refl s rfl⟩

/-! ### isinstance -/
def D.tyN : D → Option String
  | .non => some "NoneType"
  | .bl _ => some "bool"
  | .int _ => some "int"
  | .str _ => some "str"
  | .lst _ => some "list"
  | .frl _ => some "list"
  | .tup _ => some "tuple"
  | .dic _ => some "dict"
  | _ => none
theorem vr_ty {G : Gs} {μ : List Addr} {F H : Hp} (hs : Sub F H) {d : D} {v : V} {T : String} (e : d.tyN = some T) (r : VR G μ F H d v) : TyX G.K H v (.type T) := by
  cases d <;> try (cases e; done)
  all_goals cases e
  · rcases r with r | ⟨a, _, o⟩
    · cases r; exact .base .non
    · exact o.elim
  · rcases r with r | ⟨a, _, o⟩
    · cases r; exact .base (.bl _)
    · exact o.elim
  · rcases r with r | ⟨a, _, o⟩
    · cases r; exact .base (.int _)
    · exact o.elim
  · obtain ⟨rfl, _⟩ := vr_str r
    exact .base (.str _)
  · obtain ⟨a, vs, rfl, hq, _⟩ := vr_lst hs r
    exact .base (.lst hq)
  · obtain ⟨_, a, vs, rfl, hq, _⟩ := vr_tup r
    rcases hs.seqT hq with (h | ⟨o, h⟩) | ⟨o, its, n, h, h2, _⟩
    · exact .base (.tup h)
    · exact .fTuple h
    · exact .kTuple h h2
  · obtain ⟨_, a, L, rfl, hq, _⟩ := vr_dic hs r
    exact .base (.dK hq)
  · obtain ⟨_, a, vs, rfl, hq, _⟩ := vr_frl r
    rcases hs.seqL hq with (h | ⟨o, h⟩) | ⟨o, its, n, h, h2, _⟩
    · exact .base (.lst h)
    · exact .base (.frz h)
    · exact .kList h h2
def isT (a b : String) : Bool := a == b || (a == "bool" && b == "int")
/-- the types that are asked for -/
def askT (T : String) : Bool := T == "str" || T == "list" || T == "tuple" || T == "dict" || T == "bool" || T == "int"
theorem kit_all : ∀ a ∈ ["NoneType", "bool", "int", "str", "list", "tuple", "dict"], ∀ b ∈ ["str", "list", "tuple", "dict", "bool", "int"], kitB a b = some (isT a b) := by decide +kernel
theorem kit_ask {d : D} {a b : String} (h : d.tyN = some a) (hb : askT b = true) : kitB a b = some (isT a b) := by
  refine kit_all a ?_ b ?_
  · cases d <;> simp only [D.tyN, Option.some.injEq, reduceCtorEq] at h <;> subst h <;> simp
  · unfold askT at hb
    simp only [Bool.or_eq_true, beq_iff_eq] at hb
    rcases hb with ((((h | h) | h) | h) | h) | h <;> subst h <;> simp
def isiD (T : String) (d : D) : M D := do
  let x ← view d
  match x.tyN with
  | some a => pure (.bl (isT a T))
  | none => M.bad
def isi2D (T U : String) (d : D) : M D := do
  let x ← view d
  match x.tyN with
  | some a => pure (.bl (isT a T || isT a U))
  | none => M.bad
theorem sk_isi (T : String) {tx : Str} {e : Expr} {p p2 pos : Pos} {m : Env → M D} (h : SK cl md X ka e m) (hg : Gl X "isinstance") (hm : X.mg "isinstance" = none) (hgT : Gl X tx) (hmT : X.mg tx = none) (hT : askT T = true := by decide) (hvT : bootBuiltins tx = some (.type T) := by rfl) (hn : tx ≠ "__name__" := by decide) (hdb : (tx == ("__debug__" : Str)) = false := by decide)
    (h1 : starEach [e, .Name tx p2] X.env = (false, eval e X.env) :: starEach [.Name tx p2] X.env := by rfl) (h2 : starEach [.Name tx p2] X.env = (false, eval (.Name tx p2) X.env) :: starEach [] X.env := by rfl) (hpl : (backTo pos (starEach [.Name tx p2] X.env)).any (·.1) = false := by rfl) :
    SK cl md X .val (.Call (.Name "isinstance" p) [e, .Name tx p2] [] pos) (fun ρ => do let d ← m ρ; isiD T d) :=
  PE.mono (pe_callB call_isi hg hm (by rfl) (pa_cons h (pa_cons (pe_bltn (v := .ty T) hgT hmT hvT rfl hn hdb) pa_nil h2) h1) (by decide) (by decide) h1 hpl) fun σ H Q ⟨ρ, μ, F, st, hE, hS, w⟩ => by
  refine ⟨ρ, μ, F, st, hE, hS, ?_⟩
  rw [M.gives_bind] at w
  refine M.gives_mono w fun d st1 w1 v μ1 F1 H1 p1 s1 r1 => ?_
  unfold isiD at w1
  rw [M.gives_bind] at w1
  obtain ⟨d', vr, w1⟩ := view_gives s1 r1 w1
  cases et : d'.tyN with
  | none => rw [et] at w1; exact w1.elim
  | some a =>
    rw [et] at w1
    exact ⟨v, .ty T, .type a, .type T, isT a T, rfl, .ty T, vr_ty s1.sub et vr, kit_ty (kit_ask et hT), w1 _ μ1 F1 H1 p1 s1 rfl⟩
theorem sk_isi2 (T U : String) {tx ux : Str} {e : Expr} {p p2 p3 p4 pos : Pos} {k} {m : Env → M D} (h : SK cl md X ka e m) (hg : Gl X "isinstance") (hm : X.mg "isinstance" = none) (hgT : Gl X tx) (hmT : X.mg tx = none) (hgU : Gl X ux) (hmU : X.mg ux = none) (hT : askT T = true := by decide) (hU : askT U = true := by decide)
    (hvT : bootBuiltins tx = some (.type T) := by rfl) (hvU : bootBuiltins ux = some (.type U) := by rfl) (hn : tx ≠ "__name__" := by decide) (hdb : (tx == ("__debug__" : Str)) = false := by decide) (hn2 : ux ≠ "__name__" := by decide) (hdb2 : (ux == ("__debug__" : Str)) = false := by decide)
    (h1 : starEach [e, .Tuple [.Name tx p2, .Name ux p3] k p4] X.env = (false, eval e X.env) :: starEach [.Tuple [.Name tx p2, .Name ux p3] k p4] X.env := by rfl) (h2 : starEach [.Tuple [.Name tx p2, .Name ux p3] k p4] X.env = (false, eval (.Tuple [.Name tx p2, .Name ux p3] k p4) X.env) :: starEach [] X.env := by rfl) (hpl : (backTo pos (starEach [.Tuple [.Name tx p2, .Name ux p3] k p4] X.env)).any (·.1) = false := by rfl)
    (h3 : starEach [.Name tx p2, .Name ux p3] X.env = (false, eval (.Name tx p2) X.env) :: starEach [.Name ux p3] X.env := by rfl) (h4 : starEach [.Name ux p3] X.env = (false, eval (.Name ux p3) X.env) :: starEach [] X.env := by rfl) :
    SK cl md X .val (.Call (.Name "isinstance" p) [e, .Tuple [.Name tx p2, .Name ux p3] k p4] [] pos) (fun ρ => do let d ← m ρ; isi2D T U d) :=
  PE.mono (pe_callB call_isiT hg hm (by rfl) (pa_cons h (pa_cons (pe_tup (pa_cons (pe_bltn (v := .ty T) hgT hmT hvT rfl hn hdb) (pa_cons (pe_bltn (v := .ty U) hgU hmU hvU rfl hn2 hdb2) pa_nil h4) h3)) pa_nil h2) h1) (by decide) (by decide) h1 hpl) fun σ H Q ⟨ρ, μ, F, st, hE, hS, w⟩ => by
  refine ⟨ρ, μ, F, st, hE, hS, ?_⟩
  rw [M.gives_bind] at w
  refine M.gives_mono w fun d st1 w1 v μ1 F1 H1 p1 s1 r1 => ?_
  unfold isi2D at w1
  rw [M.gives_bind] at w1
  obtain ⟨d', vr, w1⟩ := view_gives s1 r1 w1
  cases et : d'.tyN with
  | none => rw [et] at w1; exact w1.elim
  | some a =>
    rw [et] at w1
    refine ⟨by simpa using line_of (show 2 ≤ 1000 by decide), fun tp ntp => ?_⟩
    have vr' : VR (gs X cl) μ1 F1 (upd H1 tp (.tup [.ty T, .ty U])) d' v := by
      rcases vr with vr | ⟨b, eb, o⟩
      · exact .inl vr
      · exact .inr ⟨b, eb, o.alloc ntp⟩
    have s2 := s1.alloc (o := .tup [.ty T, .ty U]) ntp
    refine ⟨v, tp, _, .type a, [.type T, .type U], isT a T || isT a U, rfl, upd_same, .cons (.ty T) (.cons (.ty U) .nil), vr_ty s2.sub et vr', ?_, w1 _ μ1 F1 _ (p1.alloc ntp) s2 rfl⟩
    refine kitAny_cons (kit_ty (kit_ask et hT)) (fun e1 => ?_) (fun e1 => by rw [e1]; rfl)
    refine kitAny_cons (kit_ty (kit_ask et hU)) (fun e2 => ?_) (fun e2 => by rw [e2, Bool.or_true])
    rw [e1, e2]
    rfl

/-! ### a[b] -/
theorem ix_dic (hu : X.A.units + 1 < cLine) : IxR X (fun x y H Q => ∃ a v, x = .ref a ∧ DGet H a y (some v) ∧ (∃ kvs, Rd H a (.dK kvs)) ∧ Q v H) := by
  intro value slice pins s σ H x y v u Q I rx ry h hs
  obtain ⟨a, w, rfl, g, ⟨kvs, d⟩, q⟩ := h
  cases rx
  exact tail_any (isD_at I (.inl ⟨kvs, d⟩)).1 slot_dict_getitem.lookup (d_getItem hu I g ry fun w' s' I' rw' => ⟨w, H, I', rw', q⟩) hs
def rIxA (K : PySem.W.Frag) : R2 := fun x y H Q => rIx K x y H Q ∨ ∃ a v, x = .ref a ∧ DGet H a y (some v) ∧ (∃ kvs, Rd H a (.dK kvs)) ∧ Q v H
theorem ix_any (hu : X.A.units + 1 < cLine) : IxR X (rIxA X.K) := IxR.or (IxR.or ix_list (IxR.or ix_tup ix_str)) (ix_dic hu)
def ofO : Option D → M D
  | some d => pure d
  | none => M.bad
theorem ofO_gives {o : Option D} {st : Sto} {P : D → Sto → Prop} (h : (ofO o).gives st P) : ∃ d, o = some d ∧ P d st := by
  cases o with
  | none => exact h.elim
  | some d => exact ⟨d, rfl, h⟩
def charAt (s : Str) (i : Int) : Option D := (atI s.cps.toList i).map fun c => .str ⟨#[c]⟩
def ixD (a b : D) : M D := do
  let x ← view a
  match x, b with
  | .lst ds, .int i => ofO (atI ds i)
  | .tup ds, .int i => ofO (atI ds i)
  | .frl ds, .int i => ofO (atI ds i)
  | .str s, .int i => ofO (charAt s i)
  | .dic kvs, k => match k.key? with
    | some q => ofO (dgetK kvs q)
    | none => M.bad
  | _, _ => M.bad
theorem rpl_atI {G : Gs} {μ : List Addr} {F : Hp} {ds : List D} {vs : List V} {i : Int} {d : D} (r : RpL G μ F ds vs) (h : atI ds i = some d) : ∃ v, atI vs i = some v ∧ Rp G μ F d v := by
  unfold atI at h ⊢
  rw [rpl_len r]
  cases e : ixN ds.length i with
  | none => rw [e] at h; cases h
  | some j =>
    rw [e] at h
    exact rpl_get' r h
end
end Sh
namespace Sh
open PySem PySem.Spec PyProof.Rows L2

section
variable {cl : String → Option Addr} {md : List Md} {X : Cx} {ka kb kr : Kd}
theorem charAt_ok {s : Str} {i : Int} {d : D} (ok : okS s = true) (h : charAt s i = some d) : ∃ c, atI s.cps.toList i = some c ∧ d = .str ⟨#[c]⟩ ∧ okS ⟨#[c]⟩ = true := by
  unfold charAt at h
  cases e : atI s.cps.toList i with
  | none => rw [e] at h; cases h
  | some c =>
    rw [e] at h
    cases h
    refine ⟨c, rfl, rfl, okS_mk (by show (1 : Nat) ≤ 16777216; decide) ?_⟩
    have mem : c ∈ s.cps.toList := by
      unfold atI at e
      obtain ⟨j, _, e⟩ := Option.bind_eq_some_iff.mp e
      exact List.mem_of_getElem? e
    have := okS_ok ok
    unfold PyData.strOk at this ⊢
    rw [Array.all_eq_true_iff_forall_mem] at this
    simpa using this c (Array.mem_toList_iff.mp mem)
theorem dic_get {G : Gs} {μ : List Addr} {F H : Hp} {kvs : List (D × D)} {v : V} {k : D} {q : Key} {y : D} {H0 : Hp} {u : V} (hs : Sub F H) (vr : VR G μ F H (.dic kvs) v) (hq : k.key? = some q) (hy : dgetK kvs q = some y) (rk : RK G kb H0 μ F H k u) :
    ∃ a z, v = .ref a ∧ DGet H a u (some z) ∧ (∃ L, Rd H a (.dK L)) ∧ Rp G μ F y z := by
  obtain ⟨_, a, L, rfl, hl, r⟩ := vr_dic hs vr
  have g := rpk_get (q := q) r
  rw [hy] at g
  obtain ⟨z, e, rz⟩ := g
  exact ⟨a, z, rfl, .inl ⟨L, q, .inl hl, key_v hq (rk_vr rk), e.symm⟩, ⟨L, .inl hl⟩, rz⟩
theorem o2_ix : Op2 (gs X cl) ka kb .val (rIxA X.K) ixD := fun μ F H H1 H2 st d e v u Q s r1 r2 w => by
  unfold ixD at w
  rw [M.gives_bind] at w
  obtain ⟨d', vr, w⟩ := view_gives s r1 w
  have seqc : ∀ {ds : List D} {i : Int}, e = .int i → (ofO (atI ds i)).gives st (Want (gs X cl) .val μ F H Q) → ∃ y, atI ds i = some y ∧ Want (gs X cl) .val μ F H Q y st := fun _ w => ofO_gives w
  cases d' <;> try exact w.elim
  · cases e <;> try exact w.elim
    obtain ⟨y, hy, w⟩ := ofO_gives w
    obtain ⟨rfl, ok⟩ := vr_str vr
    obtain ⟨c, hc, rfl, okc⟩ := charAt_ok ok hy
    exact .inl (.inr (.inr ⟨_, _, c, rfl, rk_int r2, okS_len ok, hc, w _ μ F H .refl s ⟨rfl, okc⟩⟩))
  · cases e <;> try exact w.elim
    obtain ⟨y, hy, w⟩ := ofO_gives w
    obtain ⟨a, vs, rfl, hq, rl, _⟩ := vr_lst s.sub vr
    obtain ⟨z, hz, rz⟩ := rpl_atI rl hy
    exact .inl (.inl ⟨a, vs, _, z, rfl, rk_int r2, .inl (.inl hq), hz, w _ μ F H .refl s rz⟩)
  · cases e <;> try exact w.elim
    obtain ⟨y, hy, w⟩ := ofO_gives w
    obtain ⟨_, a, vs, rfl, hq, rl⟩ := vr_tup vr
    obtain ⟨z, hz, rz⟩ := rpl_atI rl hy
    exact .inl (.inr (.inl ⟨a, vs, _, z, rfl, rk_int r2, s.sub.seqT hq, hz, w _ μ F H .refl s rz⟩))
  · rename_i kvs
    have w' : (match e.key? with | some q => ofO (dgetK kvs q) | none => M.bad).gives st (Want (gs X cl) .val μ F H Q) := by
      cases e <;> exact w
    cases hq : e.key? with
    | none => rw [hq] at w'; exact w'.elim
    | some q =>
      rw [hq] at w'
      obtain ⟨y, hy, w⟩ := ofO_gives w'
      obtain ⟨a, z, ev, g, hd, rz⟩ := dic_get s.sub vr hq hy r2
      exact .inr ⟨a, z, ev, g, hd, w _ μ F H .refl s rz⟩
  · cases e <;> try exact w.elim
    obtain ⟨y, hy, w⟩ := ofO_gives w
    obtain ⟨_, a, vs, rfl, hq, rl⟩ := vr_frl vr
    obtain ⟨z, hz, rz⟩ := rpl_atI rl hy
    exact .inl (.inl ⟨a, vs, _, z, rfl, rk_int r2, s.sub.seqL hq, hz, w _ μ F H .refl s rz⟩)
theorem sk_ix {a b : Expr} {pos : Pos} {m n : Env → M D} (hu : X.A.units + 1 < cLine) (ha : SK cl md X ka a m) (hb : SK cl md X kb b n) (hs : PlainIx b := by intro _ _; rfl) : SK cl md X .val (.Subscript a b pos) (fun ρ => do let x ← m ρ; let y ← n ρ; ixD x y) :=
  PE.mono (pe_ix (ix_any hu) ha hb hs) fun σ H Q q => seq2 o2_ix q

/-! ### slices -/
def tKO (G : Gs) (md : List Md) (m : Env → M (Option Int)) : TO := fun σ H Q => ∃ ρ μ F st, EnvOk G md μ F H ρ σ ∧ StOk G μ F H st ∧ (m ρ).gives st fun o st' => ∀ μ' F' H', Post μ F H μ' F' H' → StOk G μ' F' H' st' → Q o H'
def SO (cl : String → Option Addr) (md : List Md) (X : Cx) (e : Option Expr) (m : Env → M (Option Int)) : Prop := PO X e (tKO (gs X cl) md m)
theorem PO.mono {e : Option Expr} {t t' : TO} (h : PO X e t) (i : ∀ σ H Q, t' σ H Q → t σ H Q) : PO X e t' := ⟨fun pins s σ H Q I q => h.run pins s σ H Q I (i σ H Q q)⟩
theorem so_none : SO cl md X none (fun _ => pure none) := PO.mono po_none fun σ H Q ⟨ρ, μ, F, st, hE, hS, w⟩ => w μ F H .refl hS
def asI : D → M Int
  | .int i => pure i
  | _ => M.bad
theorem so_some {e : Expr} {m : Env → M D} (h : SK cl md X .val e m) : SO cl md X (some e) (fun ρ => do let x ← m ρ; let i ← asI x; pure (some i)) := PO.mono (po_some h) fun σ H Q ⟨ρ, μ, F, st, hE, hS, w⟩ => by
  refine ⟨ρ, μ, F, st, hE, hS, ?_⟩
  rw [M.gives_bind] at w
  refine M.gives_mono w fun d st1 w1 v μ1 F1 H1 p1 s1 r1 => ?_
  rw [M.gives_bind] at w1
  cases d <;> try exact w1.elim
  exact ⟨_, r1, w1 μ1 F1 H1 p1 s1⟩
def cutD (xs : List D) (lo hi : Option Int) : List D := (xs.drop (HT.sIx xs.length 0 lo)).take (HT.sIx xs.length xs.length hi - HT.sIx xs.length 0 lo)
theorem cutD_len (xs : List D) (lo hi : Option Int) : (cutD xs lo hi).length ≤ xs.length := by
  unfold cutD
  rw [List.length_take, List.length_drop]
  omega
theorem rpl_cut {G : Gs} {μ : List Addr} {F : Hp} {ds : List D} {vs : List V} (r : RpL G μ F ds vs) (lo hi : Option Int) : RpL G μ F (cutD ds lo hi) (cutV vs lo hi) := by
  unfold cutD cutV
  rw [rpl_len r]
  exact rpl_take _ (rpl_drop _ r)
def slL (x : D) (lo hi : Option Int) : M D := do
  let y ← view x
  match y with
  | .lst ds => pure (.lst (cutD ds lo hi))
  | _ => M.bad
def slV (x : D) (lo hi : Option Int) : M D := do
  let y ← view x
  match y with
  | .tup ds => pure (.tup (cutD ds lo hi))
  | .str s => if okS (cutS s lo hi) = true then pure (.str (cutS s lo hi)) else M.bad
  | _ => M.bad
def OpSl (G : Gs) (ka kr : Kd) (r : V → Option Int → Option Int → Hp → VK → Prop) (g : D → Option Int → Option Int → M D) : Prop :=
  ∀ (μ : List Addr) (F H H1 : Hp) (st : Sto) (d : D) (v : V) (lo hi : Option Int) (Q : VK), StOk G μ F H st → RK G ka H1 μ F H d v → (g d lo hi).gives st (Want G kr μ F H Q) → r v lo hi H Q
theorem os_lst : OpSl (gs X cl) ka .fre (rSlL X.K) slL := fun μ F H H1 st d v lo hi Q s r w => by
  unfold slL at w
  rw [M.gives_bind] at w
  obtain ⟨d', vr, w⟩ := view_gives s r w
  cases d' <;> try exact w.elim
  rename_i ds
  obtain ⟨a, vs, rfl, hq, rl, z⟩ := vr_lst s.sub vr
  refine ⟨a, vs, rfl, .inl (.inl hq), fun p hp => ?_⟩
  obtain ⟨p2, s2, r2⟩ := new_lst .refl s (rpl_cut rl lo hi) hp (Nat.le_trans (cutD_len _ _ _) z)
  exact w _ _ _ _ p2 s2 r2
def rSlTS (K : PySem.W.Frag) : V → Option Int → Option Int → Hp → VK → Prop := fun x lo hi H Q => rSlA K x lo hi H Q ∨ rSlS x lo hi H Q
theorem sl_ts : SlR X (rSlTS X.K) := by
  intro pins s σ H x v vl vu lo hi sl Q I rx hs pl pu h
  rcases h with h | h
  · exact sl_tupA pins s σ H x v vl vu lo hi sl Q I rx hs pl pu h
  · exact sl_str pins s σ H x v vl vu lo hi sl Q I rx hs pl pu h
theorem cutD_all {xs : List D} {lo hi : Option Int} (h : HT.sIx xs.length 0 lo = 0 ∧ HT.sIx xs.length xs.length hi = xs.length) : cutD xs lo hi = xs := by
  unfold cutD
  rw [h.1, h.2]
  simp
theorem os_val : OpSl (gs X cl) ka .val (rSlTS X.K) slV := fun μ F H H1 st d v lo hi Q s r w => by
  unfold slV at w
  rw [M.gives_bind] at w
  obtain ⟨d', vr, w⟩ := view_gives s r w
  cases d' <;> try exact w.elim
  · obtain ⟨rfl, ok⟩ := vr_str vr
    obtain ⟨c, w⟩ := ite_gives w
    exact .inr ⟨_, rfl, okS_len ok, w _ μ F H .refl s ⟨rfl, c⟩⟩
  · rename_i ds
    obtain ⟨z, a, vs, rfl, hq, rl⟩ := vr_tup vr
    refine .inl ⟨a, vs, rfl, s.sub.seqT hq, fun h => ?_, fun _ p hp => ?_⟩
    · rw [rpl_len rl] at h
      exact w _ μ F H .refl s (by rw [cutD_all h]; exact ⟨z, a, vs, rfl, hq, rl⟩)
    · obtain ⟨p2, s2, r2⟩ := new_tup .refl s (rpl_cut rl lo hi) hp (Nat.le_trans (cutD_len _ _ _) z)
      exact w _ _ _ _ p2 s2 r2
theorem sl_run {r : V → Option Int → Option Int → Hp → VK → Prop} {g : D → Option Int → Option Int → M D} {m : Env → M D} {l h : Env → M (Option Int)} (ho : OpSl (gs X cl) ka kr r g) {σ : L2.St} {H : Hp} {Q : VK}
    (q : tK (gs X cl) md kr (fun ρ => do let x ← m ρ; let i ← l ρ; let j ← h ρ; g x i j) σ H Q) : tSl r (tK (gs X cl) md ka m) (tKO (gs X cl) md l) (tKO (gs X cl) md h) σ H Q := by
  obtain ⟨ρ, μ, F, st, hE, hS, w⟩ := q
  refine ⟨ρ, μ, F, st, hE, hS, ?_⟩
  rw [M.gives_bind] at w
  refine M.gives_mono w fun d st1 w1 v μ1 F1 H1 p1 s1 r1 => ⟨ρ, μ1, F1, st1, hE.post p1, s1, ?_⟩
  rw [M.gives_bind] at w1
  refine M.gives_mono w1 fun i st2 w2 μ2 F2 H2 p2 s2 => ⟨ρ, μ2, F2, st2, (hE.post p1).post p2, s2, ?_⟩
  rw [M.gives_bind] at w2
  refine M.gives_mono w2 fun j st3 w3 μ3 F3 H3 p3 s3 => ?_
  exact ho μ3 F3 H3 H st3 d v i j Q s3 ((r1.post p2).post p3) (M.gives_mono w3 fun e st4 w4 => w4.after ((p1.trans p2).trans p3))
theorem sk_slL {e : Expr} {lo hi : Option Expr} {p2 pos : Pos} {m : Env → M D} {l h : Env → M (Option Int)} (he : SK cl md X ka e m) (hl : SO cl md X lo l) (hh : SO cl md X hi h) : SK cl md X .fre (.Subscript e (.Slice lo hi none p2) pos) (fun ρ => do let x ← m ρ; let i ← l ρ; let j ← h ρ; slL x i j) :=
  PE.mono (pe_slice sl_list he hl hh) fun _ _ _ q => sl_run os_lst q
theorem sk_slV {e : Expr} {lo hi : Option Expr} {p2 pos : Pos} {m : Env → M D} {l h : Env → M (Option Int)} (he : SK cl md X ka e m) (hl : SO cl md X lo l) (hh : SO cl md X hi h) : SK cl md X .val (.Subscript e (.Slice lo hi none p2) pos) (fun ρ => do let x ← m ρ; let i ← l ρ; let j ← h ρ; slV x i j) :=
  PE.mono (pe_slice sl_ts he hl hh) fun _ _ _ q => sl_run os_val q
theorem rpl_rev {G : Gs} {μ : List Addr} {F : Hp} : ∀ {ds : List D} {vs : List V}, RpL G μ F ds vs → RpL G μ F ds.reverse vs.reverse
  | [], _, h => by have h : _ = _ := h; subst h; exact rfl
  | d :: ds, _, h => by
    obtain ⟨v, r, e, h1, h2⟩ := h
    subst e
    rw [List.reverse_cons, List.reverse_cons]
    exact rpl_app (rpl_rev h2) ⟨v, [], rfl, h1, rfl⟩
def revD (x : D) : M D := do
  let y ← view x
  match y with
  | .lst ds => pure (.lst ds.reverse)
  | _ => M.bad
theorem sk_rev {e : Expr} {k : Nat} {p1 p2 p3 pos : Pos} {m : Env → M D} (he : SK cl md X ka e m) : SK cl md X .fre (.Subscript e (.Slice none none (some (.UnaryOp .USub (.Constant (.int 1) k p1) p2)) p3) pos) (fun ρ => do let x ← m ρ; revD x) :=
  PE.mono (pe_revL he) fun σ H Q ⟨ρ, μ, F, st, hE, hS, w⟩ => by
  refine ⟨ρ, μ, F, st, hE, hS, ?_⟩
  rw [M.gives_bind] at w
  refine M.gives_mono w fun d st1 w1 v μ1 F1 H1 p1 s1 r1 => ?_
  unfold revD at w1
  rw [M.gives_bind] at w1
  obtain ⟨d', vr, w1⟩ := view_gives s1 r1 w1
  cases d' <;> try exact w1.elim
  obtain ⟨a, vs, rfl, hq, rl, z⟩ := vr_lst s1.sub vr
  refine ⟨a, vs, rfl, .inl (.inl hq), fun p hp => ?_⟩
  obtain ⟨p2, s2, r2⟩ := new_lst p1 s1 (rpl_rev rl) hp (by rw [List.length_reverse]; exact z)
  exact w1 _ _ _ _ p2 s2 r2

/-! ### a op b op c -/
def chainD (g g2 : D → D → M D) (ma mb mc : Env → M D) : Env → M D := fun ρ => do
  let x ← ma ρ
  let y ← mb ρ
  let t ← g x y
  let k ← asB t
  if k = true then do
    let z ← mc ρ
    g2 y z
  else pure (.bl false)
theorem chain_run {r r' : R2} {g g2 : D → D → M D} {ma mb mc : Env → M D} (hg : Op2 (gs X cl) .val .val .val r g) (hg2 : Op2 (gs X cl) .val .val .val r' g2) {σ : L2.St} {H : Hp} {Q : VK} (q : tK (gs X cl) md .val (chainD g g2 ma mb mc) σ H Q) :
    tChain r r' (tK (gs X cl) md .val ma) (tK (gs X cl) md .val mb) (tK (gs X cl) md .val mc) σ H Q := by
  obtain ⟨ρ, μ, F, st, hE, hS, w⟩ := q
  refine ⟨ρ, μ, F, st, hE, hS, ?_⟩
  unfold chainD at w
  rw [M.gives_bind] at w
  refine M.gives_mono w fun x st1 w1 v μ1 F1 H1 p1 s1 r1 => ⟨ρ, μ1, F1, st1, hE.post p1, s1, ?_⟩
  rw [M.gives_bind] at w1
  refine M.gives_mono w1 fun y st2 w2 u μ2 F2 H2 p2 s2 r2 => ?_
  rw [M.gives_bind] at w2
  refine hg μ2 F2 H2 H H st2 x y v u _ s2 (r1.post p2) r2 (M.gives_mono w2 fun t st3 w3 z μ3 F3 H3 p3 s3 r3 => ?_)
  rw [M.gives_bind] at w3
  obtain ⟨k, rfl, w5⟩ := asB_gives w3
  refine ⟨k, r3, ?_⟩
  cases k
  · rw [if_neg Bool.false_ne_true] at w5 ⊢
    exact w5 _ μ3 F3 H3 ((p1.trans p2).trans p3) s3 rfl
  · rw [if_pos rfl] at w5 ⊢
    rw [M.gives_bind] at w5
    refine ⟨ρ, μ3, F3, st3, ((hE.post p1).post p2).post p3, s3, M.gives_mono w5 fun z st4 w4 z' μ4 F4 H4 p4 s4 r4 => ?_⟩
    exact hg2 μ4 F4 H4 H H st4 y z u z' Q s4 ((r2.post p3).post p4) r4 (M.gives_mono w4 fun e st5 w5 => w5.after (((p1.trans p2).trans p3).trans p4))
theorem sk_chain {a b c : Expr} {op op' : CmpOp} {pos : Pos} {r r' : R2} {g g2 : D → D → M D} {ma mb mc : Env → M D} (ho : OpR X (compareOp op) r) (ho' : OpR X (compareOp op') r') (hg : Op2 (gs X cl) .val .val .val r g) (hg2 : Op2 (gs X cl) .val .val .val r' g2)
    (ha : SK cl md X .val a ma) (hb : SK cl md X .val b mb) (hc : SK cl md X .val c mc) (hm : lastMarks [op, op'] [b, c] = false := by with_unfolding_all rfl) : SK cl md X .val (.Compare a [op, op'] [b, c] pos) (chainD g g2 ma mb mc) :=
  PE.mono (pe_chain ho ho' ha hb hc hm) fun _ _ _ q => chain_run hg hg2 q
theorem st_chain {a b c : Expr} {op op' : CmpOp} {pos : Pos} {r r' : R2} {g g2 : D → D → M D} {ma mb mc : Env → M D} (ho : OpR X (compareOp op) r) (ho' : OpR X (compareOp op') r') (hg : Op2 (gs X cl) .val .val .val r g) (hg2 : Op2 (gs X cl) .val .val .val r' g2)
    (ha : SK cl md X .val a ma) (hb : SK cl md X .val b mb) (hc : SK cl md X .val c mc) (hm : lastMarks [op, op'] [b, c] = false := by with_unfolding_all rfl) : ST cl md X (.Compare a [op, op'] [b, c] pos) (fun ρ => do let x ← chainD g g2 ma mb mc ρ; asB x) :=
  PT.mono (pt_chain ho ho' ha hb hc hm) fun σ H Q h => test_of (P := tChain r r' _ _ _) (fun Q q => chain_run hg hg2 q) h

/-! ### is -/
def isBD (f : Bool → Bool) : D → D → M D
  | .bl a, .bl b => pure (.bl (f (decide (a = b))))
  | _, _ => M.bad
theorem o2_isB : Op2 (gs X cl) ka kb .val (fun x y H Q => ∃ a b, x = .bl a ∧ y = .bl b ∧ Q (.bl (decide (a = b))) H) (isBD id) := fun μ F H H1 H2 st d e v u Q s r1 r2 w => by
  unfold isBD at w
  cases d <;> try exact w.elim
  cases e <;> try exact w.elim
  exact ⟨_, _, rk_bl r1, rk_bl r2, w _ μ F H .refl s rfl⟩
theorem o2_notB : Op2 (gs X cl) ka kb .val (fun x y H Q => ∃ a b, x = .bl a ∧ y = .bl b ∧ Q (.bl (!decide (a = b))) H) (isBD not) := fun μ F H H1 H2 st d e v u Q s r1 r2 w => by
  unfold isBD at w
  cases d <;> try exact w.elim
  cases e <;> try exact w.elim
  exact ⟨_, _, rk_bl r1, rk_bl r2, w _ μ F H .refl s rfl⟩

/-! ### sorted, of texts; of a dict with texts for keys -/
def leS (a b : Str) : Bool := !ltCps b.cps.toList a.cps.toList
def sortS (xs : List Str) : List Str := xs.mergeSort leS
theorem leS_iff {a b : Str} : leS a b = true ↔ a.cps.toList ≤ b.cps.toList := by
  unfold leS
  rw [ltCps_eq]
  simp [List.not_lt]
theorem risingS_pw : ∀ {p : Str} {l : List Str}, risingS p l = true → (p :: l).Pairwise fun a b => leS a b = true
  | p, [], _ => by simp
  | p, x :: r, h => by
    unfold risingS at h
    simp only [Bool.and_eq_true] at h
    have ih := risingS_pw h.2
    refine List.pairwise_cons.mpr ⟨fun y hy => ?_, ih⟩
    have hpx : leS p x = true := h.1
    rcases List.mem_cons.mp hy with e | hy
    · subst e; exact hpx
    · exact leS_iff.mpr (List.le_trans (leS_iff.mp hpx) (leS_iff.mp ((List.pairwise_cons.mp ih).1 y hy)))
theorem sortedS_pw {l : List Str} (h : sortedS l = true) : l.Pairwise fun a b => leS a b = true := by
  cases l with
  | nil => exact .nil
  | cons x r => exact risingS_pw h
theorem sortS_pw (xs : List Str) : (sortS xs).Pairwise fun a b => leS a b = true :=
  List.pairwise_mergeSort (le := leS) (fun a b c h1 h2 => leS_iff.mpr (List.le_trans (leS_iff.mp h1) (leS_iff.mp h2))) (fun a b => by
    rcases List.le_total a.cps.toList b.cps.toList with h | h
    · rw [leS_iff.mpr h]; rfl
    · rw [leS_iff.mpr h, Bool.or_true]) xs
theorem str_ext {a b : Str} (h : a.cps.toList = b.cps.toList) : a = b := by
  cases a; cases b
  simp only at h
  rw [Array.toList_inj.mp h]
theorem sortS_eq {xs ys : List Str} (hp : ys.Perm xs) (hs : sortedS ys = true) : ys = sortS xs :=
  List.Perm.eq_of_pairwise (le := fun a b => leS a b = true) (fun a b _ _ h1 h2 => str_ext (List.le_antisymm (leS_iff.mp h1) (leS_iff.mp h2))) (sortedS_pw hs) (sortS_pw xs) (hp.trans (List.mergeSort_perm xs leS).symm)
def strsOf : List D → Option (List Str)
  | [] => some []
  | .str b :: r => match strsOf r with
    | some bs => some (b :: bs)
    | none => none
  | _ :: _ => none
theorem rpl_strs {G : Gs} {μ : List Addr} {F : Hp} : ∀ {ds : List D} {bs : List Str} {vs : List V}, strsOf ds = some bs → RpL G μ F ds vs → vs = bs.map V.str ∧ (∀ s ∈ bs, okS s = true) ∧ ds.length = bs.length
  | [], bs, vs, e, r => by
    cases e
    exact ⟨r, by simp, rfl⟩
  | d :: ds, bs, vs, e, r => by
    cases d <;> try (cases e; done)
    unfold strsOf at e
    obtain ⟨v, vr, rfl, r1, r2⟩ := r
    cases e1 : strsOf ds with
    | none => rw [e1] at e; cases e
    | some bs' =>
      rw [e1] at e; cases e
      obtain ⟨r1, ok⟩ := r1
      obtain ⟨q1, q2, q3⟩ := rpl_strs e1 r2
      subst r1 q1
      exact ⟨rfl, fun s hs => (List.mem_cons.mp hs).elim (fun e => by rw [e]; exact ok) (q2 s), by simp [q3]⟩
theorem rpl_ofS {G : Gs} {μ : List Addr} {F : Hp} : ∀ {bs : List Str}, (∀ s ∈ bs, okS s = true) → RpL G μ F (bs.map .str) (bs.map V.str)
  | [], _ => rfl
  | b :: bs, h => ⟨.str b, _, rfl, ⟨rfl, h b List.mem_cons_self⟩, rpl_ofS fun s hs => h s (List.mem_cons_of_mem _ hs)⟩
def keysOf (kvs : List (D × D)) : List D := kvs.map (·.1)
theorem rpk_strs {G : Gs} {μ : List Addr} {F : Hp} : ∀ {kvs : List (D × D)} {bs : List Str} {L : List (Key × V)}, strsOf (keysOf kvs) = some bs → RpK G μ F kvs L → L.map (·.1) = bs.map Sum.inr ∧ (∀ s ∈ bs, okS s = true)
  | [], bs, L, e, r => by
    cases e
    have r : L = [] := r
    subst r
    exact ⟨rfl, by simp⟩
  | (k, d) :: kr, bs, L, e, r => by
    have e : strsOf (k :: keysOf kr) = some bs := e
    cases k <;> try (cases e; done)
    unfold strsOf at e
    obtain ⟨q, v, L', rfl, hk, ok, r1, r2⟩ := r
    cases e1 : strsOf (keysOf kr) with
    | none => rw [e1] at e; cases e
    | some bs' =>
      rw [e1] at e; cases e
      cases hk
      obtain ⟨q1, q2⟩ := rpk_strs e1 r2
      exact ⟨by simp [q1], fun s hs => (List.mem_cons.mp hs).elim (fun e => by rw [e]; exact ok _ rfl) (q2 s)⟩
def sortedD (x : D) : M D := do
  let y ← view x
  match y with
  | .lst ds => match strsOf ds with
    | some bs => if bs.length < 64 then pure (.lst ((sortS bs).map .str)) else M.bad
    | none => M.bad
  | .dic kvs => match strsOf (keysOf kvs) with
    | some bs => if bs.length < 64 then pure (.lst ((sortS bs).map .str)) else M.bad
    | none => M.bad
  | _ => M.bad
def rSortA (K : PySem.W.Frag) : List V → Hp → VK → Prop := fun xs H Q => rSortedS K xs H Q ∨ ∃ (a : Addr) (kvs : List (Key × V)) (ks : List Str), xs = [.ref a] ∧ Rd H a (.dK kvs) ∧ kvs.map (·.1) = ks.map Sum.inr ∧ ks.length < 64 ∧
    ∀ ys p, ys.Perm ks → sortedS ys = true → H p = none → Q (.ref p) (upd H p (.lst (ys.map V.str)))
theorem cr_sortA (hc : X.calm = true) : CallR X (.builtin "sorted") (rSortA X.K) := fun pins s σ H xs us Q I r h => by
  rcases h with h | h
  · exact cr_sortedS pins s σ H xs us Q I r h
  · exact call_sortedD hc pins s σ H xs us Q I r h
theorem o1_sorted : Op1 (gs X cl) ka .fre (rSortA X.K) sortedD := fun μ F H H0 st d v Q s r w => by
  unfold sortedD at w
  rw [M.gives_bind] at w
  obtain ⟨d', vr, w⟩ := view_gives s r w
  have fin : ∀ {bs : List Str} {p : Addr}, bs.length < 64 → (∀ s ∈ bs, okS s = true) → H p = none → Want (gs X cl) .fre μ F H Q (.lst ((sortS bs).map .str)) st → Q (.ref p) (upd H p (.lst ((sortS bs).map V.str))) := fun {bs p} h64 ok hp w => by
    obtain ⟨p2, s2, r2⟩ := new_lst .refl s (rpl_ofS (bs := sortS bs) fun s hs => ok s (List.mem_mergeSort.mp hs)) hp (by rw [List.length_map]; unfold sortS; rw [List.length_mergeSort]; exact small64 h64)
    exact w _ _ _ _ p2 s2 r2
  cases d' <;> try exact w.elim
  · rename_i ds
    obtain ⟨a, vs, rfl, hq, rl, z⟩ := vr_lst s.sub vr
    cases e : strsOf ds with
    | none => simp only [e] at w; exact w.elim
    | some bs =>
      simp only [e] at w
      obtain ⟨h64, w⟩ := ite_gives w
      obtain ⟨ev, ok, _⟩ := rpl_strs e rl
      subst ev
      exact .inl ⟨a, bs, rfl, .inl (.inl hq), h64, fun ys p hp hs hn => by rw [sortS_eq hp hs]; exact fin h64 ok hn w⟩
  · rename_i kvs
    obtain ⟨z, a, L, rfl, hq, rl⟩ := vr_dic s.sub vr
    cases e : strsOf (keysOf kvs) with
    | none => simp only [e] at w; exact w.elim
    | some bs =>
      simp only [e] at w
      obtain ⟨h64, w⟩ := ite_gives w
      obtain ⟨ev, ok⟩ := rpk_strs e rl
      exact .inr ⟨a, L, bs, rfl, .inl hq, ev, h64, fun ys p hp hs hn => by rw [sortS_eq hp hs]; exact fin h64 ok hn w⟩
end
end Sh
namespace Sh
open PySem PySem.Spec PyProof.Rows L2

/-! ### a thing of the store is changed, a new one is laid -/
section
variable {G : Gs} {μ μ' μ0 : List Addr} {F F0 F' H H0 H' : Hp} {st : Sto} {a : Addr} {d d' : D} {u o : HO} {l : Nat}
theorem StOk.putAt (s : StOk G μ F H st) (hl : μ[l]? = some a) (hu : H a = some u) (nu : ∀ x, u ≠ .own x) (new : ObjAt G μ F (upd H a o) a d') : StOk G μ F (upd H a o) (st.set l d') := by
  have fa : F a = none := new.frz
  refine ⟨s.sub.addR fa, by rw [List.length_set]; exact s.len, s.nd, fun j b e hj he => ?_⟩
  by_cases q : l = j
  · subst q
    rw [hl] at hj; cases hj
    have : l < st.length := by rw [← s.len]; exact (List.getElem?_eq_some_iff.mp hl).1
    rw [List.getElem?_set_self this] at he; cases he
    exact new
  · rw [List.getElem?_set_ne q] at he
    refine (s.obj j b e hj he).mut hu nu fun z => q ?_
    subst z
    have h1 := List.getElem?_eq_some_iff.mp hl
    have h2 := List.getElem?_eq_some_iff.mp hj
    obtain ⟨i1, e1⟩ := h1
    obtain ⟨i2, e2⟩ := h2
    exact (List.getElem_inj s.nd).mp (e1.trans e2.symm)
theorem Post.putAt (p : Post μ0 F0 H0 μ F H) (hl : μ[l]? = some a) (ho : ∃ u, H a = some u) : Post μ0 F0 H0 μ F (upd H a o) := by
  have mem : a ∈ μ := List.mem_of_getElem? hl
  refine ⟨p.subF, p.new, fun b w hb nb => ?_, p.ext, fun b w hb => ?_⟩
  · have : b ≠ a := fun z => by subst z; exact p.notin hb nb mem
    rw [upd_ne this]
    exact p.keep b w hb nb
  · by_cases z : b = a
    · subst z; exact ⟨_, upd_same⟩
    · rw [upd_ne z]; exact p.there b w hb
theorem ObjAt.more {m : List Addr} (h : ObjAt G μ F H a d) (n : ∀ b ∈ m, ∀ x, H b ≠ some (.own x)) : ObjAt G (μ ++ m) F H a d := by
  have x : Ext μ (μ ++ m) := ⟨m, rfl⟩
  cases d <;> try exact h.elim
  · obtain ⟨f, z, vs, e, r⟩ := h
    exact ⟨f, z, vs, e, RpL.mono x (Sub.refl _) _ _ r⟩
  · obtain ⟨f, z, L, e, r⟩ := h
    exact ⟨f, z, L, e, RpK.mono x (Sub.refl _) _ _ r⟩
  · obtain ⟨f, C, dx, fv, e1, e2, n2, f2, c, r⟩ := h
    refine ⟨f, C, dx, fv, e1, e2, fun q => ?_, f2, c, RpF.mono x (Sub.refl _) _ _ r⟩
    rcases List.mem_append.mp q with q | q
    · exact n2 q
    · exact n dx q a e2
  · obtain ⟨f, z, L, e, r⟩ := h
    exact ⟨f, z, L, e, RpE.mono x (Sub.refl _) _ _ r⟩
theorem ObjAt.noown {x : Addr} (h : ObjAt G μ F H a d) : H a ≠ some (.own x) := fun q => by
  cases d <;> try exact h.elim
  · obtain ⟨_, _, vs, e, _⟩ := h; rw [q] at e; cases e
  · obtain ⟨_, _, L, e, _⟩ := h; rw [q] at e; cases e
  · obtain ⟨_, C, dx, fv, e, _⟩ := h; rw [q] at e; cases e
  · obtain ⟨_, _, L, e, _⟩ := h; rw [q] at e; cases e
/-- a new container goes to the store -/
theorem to_store {v : V} (p : Post μ0 F0 H0 μ F H) (s : StOk G μ F H st) (r : RK G .fre H0 μ F H d v) : ∃ a, v = .ref a ∧ Post μ0 F0 H0 (μ ++ [a]) F H ∧ StOk G (μ ++ [a]) F H (st ++ [d]) ∧ Rp G (μ ++ [a]) F (.ref st.length) v := by
  obtain ⟨a, rfl, n, _, na, oa⟩ := r
  have no : ∀ b ∈ [a], ∀ x, H b ≠ some (.own x) := fun b hb x => by
    have e : b = a := by simpa using hb
    subst e
    exact oa.noown
  refine ⟨a, rfl, ?_, ?_, ⟨a, rfl, ?_⟩⟩
  · obtain ⟨m, e, hm⟩ := p.ext
    refine ⟨p.subF, p.new, p.keep, ⟨m ++ [a], by rw [e, List.append_assoc], fun b hb => ?_⟩, p.there⟩
    rcases List.mem_append.mp hb with hb | hb
    · exact hm b hb
    · have e : b = a := by simpa using hb
      subst e; exact n
  · refine ⟨s.sub, by simp [s.len], List.nodup_append.mpr ⟨s.nd, by simp, fun x hx y hy z => ?_⟩, fun j b e hj he => ?_⟩
    · have e : y = a := by simpa using hy
      subst e; subst z
      exact na hx
    · by_cases q : j < μ.length
      · rw [List.getElem?_append_left q] at hj
        rw [List.getElem?_append_left (by rw [← s.len]; exact q)] at he
        exact (s.obj j b e hj he).more no
      · rw [List.getElem?_append_right (by omega)] at hj
        rw [List.getElem?_append_right (by rw [← s.len]; omega)] at he
        rw [s.len] at hj
        cases j' : j - st.length with
        | zero =>
          rw [j'] at hj he
          simp only [List.getElem?_cons_zero, Option.some.injEq] at hj he
          subst hj he
          exact oa.more no
        | succ k => rw [j'] at hj; simp at hj
  · rw [← s.len, List.getElem?_append_right (Nat.le_refl _)]
    simp
end
def allocD (d : D) : M D := fun st => .ok (.ref st.length) (st ++ [d])
section
variable {cl : String → Option Addr} {md : List Md} {X : Cx} {B : Bs} {ka kb kr : Kd}
/-- the new container is one of the store -/
theorem sk_sto {x : Expr} {m : Env → M D} (h : SK cl md X .fre x m) : SK cl md X .val x (fun ρ => do let d ← m ρ; allocD d) := PE.mono h fun σ H Q ⟨ρ, μ, F, st, hE, hS, w⟩ => by
  refine ⟨ρ, μ, F, st, hE, hS, ?_⟩
  rw [M.gives_bind] at w
  refine M.gives_mono w fun d st1 w1 v μ1 F1 H1 p1 s1 r1 => ?_
  obtain ⟨a, rfl, p2, s2, r2⟩ := to_store p1 s1 r1
  exact w1 _ _ _ _ p2 s2 r2
/-- {} -/
theorem sk_dnew {pos : Pos} : SK cl md X .fre (.Dict [] [] pos) (fun _ => pure (.dic [])) := PE.mono pe_dnewK fun σ H Q ⟨ρ, μ, F, st, hE, hS, w⟩ a na => by
  refine w _ μ F _ (Post.refl.alloc na) (hS.alloc na) ⟨a, rfl, na, (fun C dx fv h => by rw [upd_same] at h; cases h), hS.notin na, hS.sub.free na, by simp, [], upd_same, rfl⟩

/-! ### {k: v, ..} -/
def RpP (G : Gs) (μ : List Addr) (F : Hp) : List (D × D) → List (V × V) → Prop
  | [], us => us = []
  | (k, d) :: r, us => ∃ x y us', us = (x, y) :: us' ∧ Rp G μ F k x ∧ Rp G μ F d y ∧ RpP G μ F r us'
def tKP (G : Gs) (md : List Md) (m : Env → M (List (D × D))) : L2.St → Hp → (List (V × V) → Hp → Prop) → Prop := fun σ H Q => ∃ ρ μ F st, EnvOk G md μ F H ρ σ ∧ StOk G μ F H st ∧ (m ρ).gives st fun ps st' => ∀ us μ' F' H', Post μ F H μ' F' H' → StOk G μ' F' H' st' → RpP G μ' F' ps us → Q us H'
structure SPs (cl : String → Option Addr) (md : List Md) (X : Cx) (pos : Pos) (keys : List (Option Expr)) (values : List Expr) (m : Env → M (List (D × D))) : Prop where
  ex : ∃ trs, PPs X pos keys values trs ∧ ∀ σ H Q, tKP (gs X cl) md m σ H Q → tPairs trs σ H Q
theorem sps_nil {pos : Pos} : SPs cl md X pos [] [] (fun _ => pure []) := ⟨[], pps_nil, fun σ H Q ⟨ρ, μ, F, st, hE, hS, w⟩ => w [] μ F H .refl hS rfl⟩
theorem RpP.post {G : Gs} {μ μ' : List Addr} {F F' H H' : Hp} (p : Post μ F H μ' F' H') : ∀ {ps : List (D × D)} {us : List (V × V)}, RpP G μ F ps us → RpP G μ' F' ps us
  | [], us, h => h
  | (k, d) :: r, us, ⟨x, y, us', e, h1, h2, h3⟩ => ⟨x, y, us', e, Rp.post p h1, Rp.post p h2, RpP.post p h3⟩
theorem sps_cons {pos : Pos} {k v : Expr} {ks : List (Option Expr)} {vs : List Expr} {mk mv : Env → M D} {m : Env → M (List (D × D))} (hk : SK cl md X .val k mk) (hv : SK cl md X .val v mv) (hr : SPs cl md X pos ks vs m) :
    SPs cl md X pos (some k :: ks) (v :: vs) (fun ρ => do let x ← mk ρ; let y ← mv ρ; let r ← m ρ; pure ((x, y) :: r)) := by
  obtain ⟨trs, h1, h2⟩ := hr.ex
  refine ⟨_, pps_cons hk hv h1, fun σ H Q ⟨ρ, μ, F, st, hE, hS, w⟩ => ⟨ρ, μ, F, st, hE, hS, ?_⟩⟩
  rw [M.gives_bind] at w
  refine M.gives_mono w fun x st1 w1 xv μ1 F1 H1 p1 s1 r1 => ⟨ρ, μ1, F1, st1, hE.post p1, s1, ?_⟩
  rw [M.gives_bind] at w1
  refine M.gives_mono w1 fun y st2 w2 yv μ2 F2 H2 p2 s2 r2 => h2 _ _ _ ⟨ρ, μ2, F2, st2, (hE.post p1).post p2, s2, ?_⟩
  rw [M.gives_bind] at w2
  refine M.gives_mono w2 fun r st3 w3 us μ3 F3 H3 p3 s3 r3 => ?_
  exact w3 ((xv, yv) :: us) μ3 F3 H3 ((p1.trans p2).trans p3) s3 ⟨xv, yv, us, rfl, Rp.post p3 (Rp.post p2 r1), Rp.post p3 r2, r3⟩
/-- the keys are told apart -/
def keysOk : List (D × D) → Bool
  | [] => true
  | (k, _) :: r => k.key?.isSome && (r.all fun p => decide (p.1.key? ≠ k.key?)) && keysOk r
def dispD (ps : List (D × D)) : M D := if (keysOk ps && decide (ps.length ≤ 15)) = true then pure (.dic ps) else M.bad
theorem rpp_key {G : Gs} {μ : List Addr} {F : Hp} : ∀ {ps : List (D × D)} {us : List (V × V)}, keysOk ps = true → RpP G μ F ps us → ∃ L, us = L.map (fun kv => (kV kv.1, kv.2)) ∧ RpK G μ F ps L ∧ L.length = ps.length ∧ L.Pairwise fun p q => p.1 ≠ q.1
  | [], us, _, h => ⟨[], h, rfl, rfl, .nil⟩
  | (k, d) :: r, us, hk, ⟨x, y, us', e, h1, h2, h3⟩ => by
    unfold keysOk at hk
    simp only [Bool.and_eq_true] at hk
    obtain ⟨⟨k1, k2⟩, k3⟩ := hk
    obtain ⟨L, e1, r1, l1, w1⟩ := rpp_key k3 h3
    obtain ⟨q, hq⟩ := Option.isSome_iff_exists.mp k1
    refine ⟨(q, y) :: L, ?_, ⟨q, y, L, rfl, hq, fun s es => ?_, h2, r1⟩, by simp [l1], List.pairwise_cons.mpr ⟨fun p hp => ?_, w1⟩⟩
    · rw [e, e1]
      have hx : x = kV q := key_v (H := F) hq (.inl h1)
      rw [hx]
      rfl
    · subst es
      cases k <;> try (cases hq; done)
      cases hq
      exact h1.2
    · show q ≠ p.1
      intro z
      subst z
      rw [List.all_eq_true] at k2
      have mem : ∀ {ps : List (D × D)} {L : List (Key × V)}, RpK G μ F ps L → ∀ p ∈ L, ∃ c ∈ ps, c.1.key? = some p.1 := by
        intro ps
        induction ps with
        | nil => intro L h p hp; have h : L = [] := h; subst h; simp at hp
        | cons c cs ih =>
          intro L h p hp
          obtain ⟨q', v, L', rfl, hk, _, _, hr⟩ := h
          rcases List.mem_cons.mp hp with e | hp
          · subst e; exact ⟨c, List.mem_cons_self, hk⟩
          · obtain ⟨c', m', e'⟩ := ih hr p hp
            exact ⟨c', List.mem_cons_of_mem _ m', e'⟩
      obtain ⟨c, hc, ec⟩ := mem r1 p hp
      have := k2 c hc
      simp only [decide_eq_true_eq] at this
      exact this (ec.trans hq.symm)
theorem merge_id : ∀ (L K : List (Key × V)), (K ++ L).Pairwise (fun p q => p.1 ≠ q.1) → mergeK K L = K ++ L
  | [], K, _ => by simp [mergeK]
  | p :: L, K, h => by
    have e : putK K p.1 p.2 = K ++ [p] := by
      unfold putK
      rw [if_neg]
      simp only [List.any_eq_true, decide_eq_true_eq, not_exists, not_and]
      intro x hx
      exact (List.pairwise_append.mp h).2.2 x hx p List.mem_cons_self
    show mergeK (putK K p.1 p.2) L = _
    rw [e, merge_id L (K ++ [p]) (by simpa using h)]
    simp
theorem sk_disp {pos : Pos} {keys : List (Option Expr)} {values : List Expr} {m : Env → M (List (D × D))} (h : SPs cl md X pos keys values m) (hall : keys.all (·.isSome) = true := by rfl) (hl : keys.length = values.length := by rfl) (h0 : keys ≠ [] := by simp) (h15 : keys.length ≤ 15 := by decide) :
    SK cl md X .fre (.Dict keys values pos) (fun ρ => do let ps ← m ρ; dispD ps) := by
  obtain ⟨trs, h1, h2⟩ := h.ex
  refine PE.mono (pe_disp h1 hall hl h0 h15) fun σ H Q ⟨ρ, μ, F, st, hE, hS, w⟩ a na => h2 _ _ _ ⟨ρ, μ, F, st, hE.post (Post.refl.alloc na), hS.alloc na, ?_⟩
  rw [M.gives_bind] at w
  refine M.gives_mono w fun ps st1 w1 us μ1 F1 H1 p1 s1 r1 => ?_
  obtain ⟨hk, w2⟩ := ite_gives w1
  simp only [Bool.and_eq_true, decide_eq_true_eq] at hk
  obtain ⟨L, rfl, r2, hL, pw⟩ := rpp_key hk.1 r1
  have na' : a ∉ μ := hS.notin na
  have ea : H1 a = some (.dK []) := p1.keep a _ upd_same na'
  have fa : F1 a = none := p1.unfrz upd_same (hS.sub.free na)
  refine ⟨ea, L, rfl, by rw [hL]; exact hk.2, ?_⟩
  rw [merge_id L [] (by simpa using pw), List.nil_append]
  have n1 : a ∉ μ1 := p1.notin upd_same na'
  refine w2 _ μ1 F1 _ ⟨p1.subF, fun b o hb => ?_, fun b o hb nb => ?_, ?_, fun b o hb => ?_⟩ ⟨s1.sub.addR fa, s1.len, s1.nd, fun l b e hl he => (s1.obj l b e hl he).mut ea (fun x q => by cases q) fun q => n1 (q ▸ List.mem_of_getElem? hl)⟩
    ⟨a, rfl, na, (fun C dx fv h => by rw [upd_same] at h; cases h), n1, fa, by rw [sizeLine_eq]; omega, L, upd_same, r2⟩
  · rcases p1.new b o hb with q | q
    · exact .inl q
    · by_cases z : b = a
      · subst z; rw [upd_same] at q; cases q
      · rw [upd_ne z] at q; exact .inr q
  · have z : b ≠ a := fun z => by subst z; rw [na] at hb; cases hb
    rw [upd_ne z]
    exact p1.keep b o (by rw [upd_ne z]; exact hb) nb
  · obtain ⟨m', e, hm⟩ := p1.ext
    refine ⟨m', e, fun b hb => ?_⟩
    have := hm b hb
    by_cases z : b = a
    · subst z; exact na
    · rw [upd_ne z] at this; exact this
  · have z : b ≠ a := fun z => by subst z; rw [na] at hb; cases hb
    obtain ⟨o', q⟩ := p1.there b o (by rw [upd_ne z]; exact hb)
    exact ⟨o', by rw [upd_ne z]; exact q⟩
end
end Sh
namespace Sh
open PySem PySem.Spec PyProof.Rows L2
section
variable {cl : String → Option Addr} {md : List Md} {X : Cx} {B : Bs} {ka kb kr : Kd}
/-! ### d.get(k, x) -/
def needDic (d : D) : M Unit := do
  let x ← view d
  match x with
  | .dic _ => pure ()
  | _ => M.bad
def dget2D (x y z : D) : M D := do
  let v ← view x
  match v with
  | .dic kvs => match y.key? with
    | some q => pure ((dgetK kvs q).getD z)
    | none => M.bad
  | _ => M.bad
def dget2M (mo mk mz : Env → M D) : Env → M D := fun ρ => do
  let x ← mo ρ
  let _ ← needDic x
  let y ← mk ρ
  let z ← mz ρ
  dget2D x y z
theorem sk_dget2 {o e f : Expr} {apos cpos : Pos} {mo mk mz : Env → M D} (hu : X.A.units + 1 < cLine) (hkr : kr ≠ .fre) (ho : SK cl md X .val o mo) (he : SK cl md X .val e mk) (hf : SK cl md X kr f mz) (m : M2 X o "get" apos e f cpos := by exact ⟨rfl, rfl, rfl, rfl⟩) :
    SK cl md X kr (.Call (.Attribute o "get" apos) [e, f] [] cpos) (dget2M mo mk mz) := PE.mono (pe_dget2 hu ho he hf m) fun σ H Q ⟨ρ, μ, F, st, hE, hS, w⟩ => by
  refine ⟨ρ, μ, F, st, hE, hS, ?_⟩
  unfold dget2M at w
  rw [M.gives_bind] at w
  refine M.gives_mono w fun x st1 w1 xv μ1 F1 H1 p1 s1 r1 => ?_
  rw [M.gives_bind] at w1
  unfold needDic at w1
  rw [M.gives_bind] at w1
  have r1' : RK (gs X cl) .val H μ1 F1 H1 x xv := r1
  obtain ⟨x', vx, w1⟩ := view_gives s1 r1' w1
  cases x' <;> try exact w1.elim
  obtain ⟨_, a, L, rfl, hq, _⟩ := vr_dic s1.sub vx
  refine ⟨a, rfl, .inl ⟨L, .inl hq⟩, ρ, μ1, F1, st1, hE.post p1, s1, ?_⟩
  have w1 : (do let y ← mk ρ; let z ← mz ρ; dget2D x y z).gives st1 (Want (gs X cl) kr μ F H Q) := w1
  rw [M.gives_bind] at w1
  refine M.gives_mono w1 fun y st2 w2 yv μ2 F2 H2 p2 s2 r2 => ⟨ρ, μ2, F2, st2, (hE.post p1).post p2, s2, ?_⟩
  rw [M.gives_bind] at w2
  refine M.gives_mono w2 fun z st3 w3 zv μ3 F3 H3 p3 s3 r3 => ?_
  have rx : RK (gs X cl) .val H μ3 F3 H3 x (.ref a) := Rp.post p3 (Rp.post p2 r1)
  have ry : RK (gs X cl) .val H1 μ3 F3 H3 y yv := RK.post p3 r2
  unfold dget2D at w3
  rw [M.gives_bind] at w3
  obtain ⟨x2, vx2, w3⟩ := view_gives s3 rx w3
  cases x2 <;> try exact w3.elim
  rename_i kvs
  simp only at w3
  cases hk : y.key? with
  | none => simp only [hk] at w3; exact w3.elim
  | some q =>
    simp only [hk] at w3
    obtain ⟨_, a', L', ea, hq', rk⟩ := vr_dic s3.sub vx2
    cases ea
    have g := rpk_get (q := q) rk
    refine ⟨valV L' q, .inl ⟨L', q, .inl hq', key_v hk (rk_vr ry), rfl⟩, ?_⟩
    refine w3 _ μ3 F3 H3 ((p1.trans p2).trans p3) s3 ?_
    cases hg : dgetK kvs q with
    | some d =>
      rw [hg] at g
      obtain ⟨v, ev, rv⟩ := g
      rw [ev]
      cases kr with
      | val => exact rv
      | bor => exact .inl rv
      | fre => exact absurd rfl hkr
    | none =>
      rw [hg] at g
      rw [show valV L' q = none from g]
      exact r3.base fun b n => p1.free (p2.free n)

/-! ### o[k] = v -/
def dputK (kvs : List (D × D)) (q : Key) (k v : D) : List (D × D) :=
  if (kvs.any fun p => decide (p.1.key? = some q)) = true then kvs.map (fun p => if p.1.key? = some q then (p.1, v) else p) else kvs ++ [(k, v)]
theorem rpk_any {G : Gs} {μ : List Addr} {F : Hp} {q : Key} : ∀ {kvs : List (D × D)} {L : List (Key × V)}, RpK G μ F kvs L → (kvs.any fun p => decide (p.1.key? = some q)) = L.any fun kv => decide (kv.1 = q)
  | [], _, h => by have h : _ = _ := h; subst h; rfl
  | (k, d) :: r, _, h => by
    obtain ⟨q', v, L', rfl, hk, _, hv, hr⟩ := h
    simp only [List.any_cons, hk, rpk_any hr, Option.some.injEq]
theorem rpk_snoc {G : Gs} {μ : List Addr} {F : Hp} {k d : D} {q : Key} {v : V} (hk : k.key? = some q) (ok : ∀ s, q = .inr s → okS s = true) (rv : Rp G μ F d v) : ∀ {kvs : List (D × D)} {L : List (Key × V)}, RpK G μ F kvs L → RpK G μ F (kvs ++ [(k, d)]) (L ++ [(q, v)])
  | [], _, h => by have h : _ = _ := h; subst h; exact ⟨q, v, [], rfl, hk, ok, rv, rfl⟩
  | (k', d') :: r, _, h => by
    obtain ⟨q', v', L', rfl, h1, h2, h3, h4⟩ := h
    exact ⟨q', v', L' ++ [(q, v)], rfl, h1, h2, h3, rpk_snoc hk ok rv h4⟩
theorem rpk_map {G : Gs} {μ : List Addr} {F : Hp} {d : D} {q : Key} {v : V} (rv : Rp G μ F d v) : ∀ {kvs : List (D × D)} {L : List (Key × V)}, RpK G μ F kvs L → RpK G μ F (kvs.map fun p => if p.1.key? = some q then (p.1, d) else p) (L.map fun kv => if kv.1 = q then (kv.1, v) else kv)
  | [], _, h => by have h : _ = _ := h; subst h; exact rfl
  | (k', d') :: r, _, h => by
    obtain ⟨q', v', L', rfl, h1, h2, h3, h4⟩ := h
    rw [List.map_cons, List.map_cons]
    by_cases e : q' = q
    · subst e
      rw [if_pos h1, if_pos rfl]
      exact ⟨q', v, _, rfl, h1, h2, rv, rpk_map rv h4⟩
    · rw [if_neg (show ¬ (k', d').1.key? = some q by rw [h1]; exact fun z => e (Option.some.inj z)), if_neg e]
      exact ⟨q', v', _, rfl, h1, h2, h3, rpk_map rv h4⟩
theorem rpk_put {G : Gs} {μ : List Addr} {F : Hp} {k d : D} {q : Key} {v : V} (hk : k.key? = some q) (ok : ∀ s, q = .inr s → okS s = true) (rv : Rp G μ F d v) {kvs : List (D × D)} {L : List (Key × V)} (r : RpK G μ F kvs L) : RpK G μ F (dputK kvs q k d) (putK L q v) := by
  unfold dputK putK
  rw [rpk_any r]
  split
  · exact rpk_map rv r
  · exact rpk_snoc hk ok rv r
theorem key_ok {G : Gs} {μ : List Addr} {F H : Hp} {d : D} {v : V} {q : Key} (e : d.key? = some q) (r : VR G μ F H d v) : ∀ s, q = .inr s → okS s = true := fun s es => by
  subst es
  cases d <;> try cases e
  exact (vr_str r).2
/-- the container behind c[i] = v -/
def setIt (c i v : D) : Option D := match c with
  | .lst ds => match i with
    | .int k => (ixN ds.length k).map fun j => .lst (ds.set j v)
    | _ => none
  | .dic kvs => match i.key? with
    | some q => if kvs.length < 16777216 then some (.dic (dputK kvs q i v)) else none
    | none => none
  | _ => none
def rSetA : TSet := fun o i v H Q => rSetL o i v H Q ∨ rSetD o i v H Q
theorem set_any (hu : X.A.units + 1 < cLine) : PSet X rSetA := fun pins s σ H o i v ov iv u Q I ro ri rv h => by
  rcases h with h | h
  · exact set_list pins s σ H o i v ov iv u Q I ro ri rv h
  · exact set_dict hu pins s σ H o i v ov iv u Q I ro ri rv h
/-- a container that stands at a is changed -/
theorem setIt_obj {G : Gs} {μ : List Addr} {F H H1 : Hp} {a : Addr} {c i v c' : D} {iv vv : V} (e : setIt c i v = some c') (o : ObjAt G μ F H a c) (ri : RK G ka H1 μ F H i iv) (rv : Rp G μ F v vv) :
    ∃ u n, H a = some u ∧ (∀ x, u ≠ .own x) ∧ ObjAt G μ F (upd H a n) a c' ∧ (∀ C dx fv, n = .ins C dx fv → ∃ fv', u = .ins C dx fv') ∧ ∀ Q : Hp → Prop, Q (upd H a n) → rSetA (.ref a) iv vv H Q := by
  unfold setIt at e
  cases c <;> try (cases e; done)
  · rename_i ds
    obtain ⟨f, z, vs, hq, rl⟩ := o
    cases i <;> try (cases e; done)
    rename_i k
    simp only [Option.map_eq_some_iff] at e
    obtain ⟨j, hj, rfl⟩ := e
    refine ⟨_, .lst (vs.set j vv), hq, (fun x q => by cases q), ⟨f, by rw [List.length_set]; exact z, _, upd_same, rpl_set rv j rl⟩, (fun _ _ _ q => by cases q), fun Q q => .inl ⟨a, vs, k, j, rfl, rk_int ri, hq, by rw [rpl_len rl]; exact hj, q⟩⟩
  · rename_i kvs
    obtain ⟨f, z, L, hq, rk⟩ := o
    simp only at e
    cases hk : i.key? with
    | none => rw [hk] at e; cases e
    | some q =>
      rw [hk] at e
      simp only at e
      split at e
      · rename_i hz
        cases e
        have vi := rk_vr ri
        refine ⟨_, .dK (putK L q vv), hq, (fun x q => by cases q), ⟨f, ?_, _, upd_same, rpk_put hk (key_ok hk vi) rv rk⟩, (fun _ _ _ q => by cases q), fun Q w => .inr ⟨a, _, rfl, .inl ⟨L, q, hq, key_v hk vi, by rw [rpk_len rk]; exact line_eq hz, rfl⟩, w⟩⟩
        have h1 := rpk_len (rpk_put hk (key_ok hk vi) rv rk)
        have h2 := length_putK L q vv
        have h3 := rpk_len rk
        rw [← h1, sizeLine_eq]
        omega
      · cases e
def ofE (o : Option D) : M D := ofO o
def setOwnIt (i : Nat) (mk mv : Env → M D) : MS := fun ρ => do
  let v ← mv ρ
  let c ← getV ρ i
  let k ← mk ρ
  let c' ← ofO (setIt c k v)
  pure (.nx, ρ.set i (some c'))
/-- x[k] = v, x a container of one's own -/
theorem ss_setIt (i : Nat) {x : Str} {e v : Expr} {p spos pos : Pos} {mk mv : Env → M D} (hu : X.A.units + 1 < cLine) (hv : SK cl md X .val v mv) (hk : SK cl md X .val e mk) (hm : md[i]? = some .own := by rfl) (hN : X.N[i]? = some x := by rfl) (hvis : Vis X.env.scope x := by first | exact Or.inl rfl | exact Or.inr (Or.inl rfl) | exact Or.inr (Or.inr rfl)) (hd : (x == ("__debug__" : Str)) = false := by decide)
    (hcd : (x == ("__classdict__" : Str)) = false := by decide)
    (ha : ∀ v, assign (.Subscript (.Name x p) e spos) X.env v = (do
      let ov ← holding [v] (eval (.Name x p) X.env)
      let iv ← holding [v, ov] (eval e X.env)
      standAt spos
      holding [v, ov, iv] (setItem ov iv v)
      release [v, ov, iv] []) := by intro _; rfl)
    (hs : swapsWithSole [.Subscript (.Name x p) e spos] v pos.line X.env = pure false := by rfl) (hw : swappedStores [.Subscript (.Name x p) e spos] v X.env = pure none := by rfl)
    (h1 : (assignEach [.Subscript (.Name x p) e spos] X.env).map (·.2) = [assign (.Subscript (.Name x p) e spos) X.env] := by rfl) : SS cl md B X (.Assign [.Subscript (.Name x p) e spos] v pos) (setOwnIt i mk mv) :=
  PS.mono (ps_asg hv (pg_sub (pe_var hN hvis hd hcd) hk (set_any hu) ha) hs hw h1) fun D σ H ⟨ρ, μ, F, st, s, w⟩ => by
  refine ⟨ρ, μ, F, st, s.env, s.sto, ?_⟩
  unfold setOwnIt at w
  rw [M.gives_bind] at w
  refine M.gives_mono w fun dv st1 w1 vv μ1 F1 H1 p1 s1 r1 => ?_
  rw [M.gives_bind] at w1
  obtain ⟨c, ec, w1⟩ := getV_gives w1
  have t1 := s.step p1 s1
  obtain ⟨a, ea, na, oa⟩ := own_at t1 hm ec
  refine ⟨.ref a, ea, ρ, μ1, F1, st1, t1.env, s1, ?_⟩
  rw [M.gives_bind] at w1
  refine M.gives_mono w1 fun dk st2 w2 kv μ2 F2 H2 p2 s2 r2 => ?_
  rw [M.gives_bind] at w2
  obtain ⟨c', e', w2⟩ := ofO_gives w2
  have t2 := t1.step p2 s2
  have oa2 := oa.post p2 na
  have r2' : RK (gs X cl) .val H1 μ2 F2 H2 dk kv := r2
  obtain ⟨u, n, hu', nu, new, kd, fin⟩ := setIt_obj e' oa2 r2' (Rp.post p2 r1)
  exact fin _ (w2 σ μ2 F2 _ (t2.mut hm ec ea hu' nu new kd) (p1.subF.trans p2.subF) (p1.mu.trans p2.mu))
/-- o[k] = v, o a thing of the store -/
def putRef (o k v : D) : M Unit := fun st => match o with
  | .ref l => match st[l]? with
    | some c => match setIt c k v with
      | some c' => .ok () (st.set l c')
      | none => .bad
    | none => .bad
  | _ => .bad
def setRefIt (mo mk mv : Env → M D) : MS := fun ρ => do
  let v ← mv ρ
  let o ← mo ρ
  let k ← mk ρ
  let _ ← putRef o k v
  pure (.nx, ρ)
theorem putRef_gives {o k v : D} {st : Sto} {P : Unit → Sto → Prop} (h : (putRef o k v).gives st P) : ∃ l c c', o = .ref l ∧ st[l]? = some c ∧ setIt c k v = some c' ∧ P () (st.set l c') := by
  unfold putRef M.gives at h
  cases o <;> try exact h.elim
  rename_i l
  simp only at h
  cases e : st[l]? with
  | none => rw [e] at h; exact h.elim
  | some c =>
    rw [e] at h
    simp only at h
    cases e2 : setIt c k v with
    | none => rw [e2] at h; exact h.elim
    | some c' => rw [e2] at h; exact ⟨l, c, c', rfl, e, e2, h⟩
theorem ss_setRef {o e v : Expr} {spos pos : Pos} {mo mk mv : Env → M D} (hu : X.A.units + 1 < cLine) (hv : SK cl md X .val v mv) (ho : SK cl md X .val o mo) (hk : SK cl md X .val e mk)
    (ha : ∀ v, assign (.Subscript o e spos) X.env v = (do
      let ov ← holding [v] (eval o X.env)
      let iv ← holding [v, ov] (eval e X.env)
      standAt spos
      holding [v, ov, iv] (setItem ov iv v)
      release [v, ov, iv] []) := by intro _; rfl)
    (hs : swapsWithSole [.Subscript o e spos] v pos.line X.env = pure false := by rfl) (hw : swappedStores [.Subscript o e spos] v X.env = pure none := by rfl)
    (h1 : (assignEach [.Subscript o e spos] X.env).map (·.2) = [assign (.Subscript o e spos) X.env] := by rfl) : SS cl md B X (.Assign [.Subscript o e spos] v pos) (setRefIt mo mk mv) :=
  PS.mono (ps_asg hv (pg_sub ho hk (set_any hu) ha) hs hw h1) fun D σ H ⟨ρ, μ, F, st, s, w⟩ => by
  refine ⟨ρ, μ, F, st, s.env, s.sto, ?_⟩
  unfold setRefIt at w
  rw [M.gives_bind] at w
  refine M.gives_mono w fun dv st1 w1 vv μ1 F1 H1 p1 s1 r1 => ⟨ρ, μ1, F1, st1, s.env.post p1, s1, ?_⟩
  rw [M.gives_bind] at w1
  refine M.gives_mono w1 fun dob st2 w2 ov μ2 F2 H2 p2 s2 r2 => ⟨ρ, μ2, F2, st2, (s.env.post p1).post p2, s2, ?_⟩
  rw [M.gives_bind] at w2
  refine M.gives_mono w2 fun dk st3 w3 kv μ3 F3 H3 p3 s3 r3 => ?_
  rw [M.gives_bind] at w3
  obtain ⟨l, c, c', rfl, ec, e', w4⟩ := putRef_gives w3
  obtain ⟨a, rfl, hl⟩ := (show Rp (gs X cl) μ3 F3 (.ref l) ov from Rp.post p3 r2)
  have oa := s3.obj l a c hl ec
  have r3' : RK (gs X cl) .val H2 μ3 F3 H3 dk kv := r3
  obtain ⟨u, n, hu', nu, new, _, fin⟩ := setIt_obj e' oa r3' (Rp.post p3 (Rp.post p2 r1))
  have p := (p1.trans p2).trans p3
  exact fin _ (w4 σ μ3 F3 _ (s.step (p.putAt hl ⟨u, hu'⟩) (s3.putAt hl hu' nu new)) p.subF p.mu)
end
end Sh
namespace Sh
open PySem PySem.Spec PyProof.Rows L2
section
variable {cl : String → Option Addr} {md : List Md} {X : Cx} {B : Bs} {ka kb kr : Kd}
/-! ### .pop(i), .insert(i, e) -/
def popAt (c : D) (i : D) : Option (D × D) := match c, i with
  | .lst ds, .int k => match seqIndex? k ds.length with
    | some j => (ds[j]?).map fun y => (y, .lst (ds.eraseIdx j))
    | none => none
  | _, _ => none
theorem seqIx_bd {k : Int} {n j : Nat} (h : seqIndex? k n = some j) : -(n : Int) ≤ k ∧ k < n := by
  unfold seqIndex? at h
  by_cases h0 : k < 0
  · simp only [if_pos h0] at h
    split at h
    · rename_i q
      simp only [Bool.and_eq_true, decide_eq_true_eq] at q
      omega
    · cases h
  · simp only [if_neg h0] at h
    split at h
    · rename_i q
      simp only [Bool.and_eq_true, decide_eq_true_eq] at q
      omega
    · cases h
theorem popAt_obj {G : Gs} {μ : List Addr} {F H H1 : Hp} {a : Addr} {c i y c' : D} {iv : V} (e : popAt c i = some (y, c')) (o : ObjAt G μ F H a c) (ri : RK G ka H1 μ F H i iv) :
    ∃ vs yv n, H a = some (.lst vs) ∧ Rp G μ F y yv ∧ ObjAt G μ F (upd H a (.lst n)) a c' ∧ ∀ Q : VK, Q yv (upd H a (.lst n)) → rPopAt (.ref a) [iv] H Q := by
  unfold popAt at e
  cases c <;> try (cases e; done)
  cases i <;> try (cases e; done)
  rename_i ds k
  simp only at e
  obtain ⟨f, z, vs, hq, rl⟩ := o
  cases ej : seqIndex? k ds.length with
  | none => rw [ej] at e; cases e
  | some j =>
    rw [ej] at e
    simp only [Option.map_eq_some_iff] at e
    obtain ⟨y', hy, e⟩ := e
    cases e
    obtain ⟨yv, hyv, ry⟩ := rpl_get' rl hy
    refine ⟨vs, yv, vs.eraseIdx j, hq, ry, ⟨f, ?_, _, upd_same, rpl_erase j rl⟩, fun Q q => ⟨a, vs, k, j, yv, rfl, by rw [rk_int ri], hq, ?_, ?_, by rw [rpl_len rl]; exact ej, hyv, q⟩⟩
    · exact Nat.le_trans (List.length_eraseIdx_le _ _) z
    · have := (seqIx_bd ej).1
      rw [sizeLine_eq] at z
      omega
    · have := (seqIx_bd ej).2
      rw [sizeLine_eq] at z
      omega
def ofOP (o : Option (D × D)) : M (D × D) := match o with
  | some p => pure p
  | none => M.bad
theorem ofOP_gives {o : Option (D × D)} {st : Sto} {P : D × D → Sto → Prop} (h : (ofOP o).gives st P) : ∃ y c, o = some (y, c) ∧ P (y, c) st := by
  cases o with
  | none => exact h.elim
  | some d => exact ⟨d.1, d.2, rfl, h⟩
def popOwnS (i : Nat) (m : Env → M D) : MS := fun ρ => do
  let c ← getV ρ i
  let d ← m ρ
  let p ← ofOP (popAt c d)
  pure (.nx, ρ.set i (some p.2))
/-- x.pop(e), as a statement -/
theorem ss_popAt (i : Nat) {x : Str} {e : Expr} {p apos cpos pos : Pos} {m : Env → M D} (h : SK cl md X .val e m) (hm : md[i]? = some .own := by rfl) (hN : X.N[i]? = some x := by rfl) (hv : Vis X.env.scope x := by first | exact Or.inl rfl | exact Or.inr (Or.inl rfl) | exact Or.inr (Or.inr rfl)) (hd : (x == ("__debug__" : Str)) = false := by decide)
    (hcd : (x == ("__classdict__" : Str)) = false := by decide) (hst : starEach [e] X.env = [(false, eval e X.env)] := by rfl)
    (hb : Bm1 X "list" rPopAt (.Name x p) "pop" apos e cpos := by intro _ _ ho ha; exact pe_bm PySem.F.plainAttrs_list PySem.F.slot_list_pop PySem.F.type_list_pop mt_popAt ho ha)
    (hsw : swapsWith (.Call (.Attribute (.Name x p) "pop" apos) [e] [] cpos) none pos.line X.env = pure false := by rfl) : SS cl md B X (.Expr (.Call (.Attribute (.Name x p) "pop" apos) [e] [] cpos) pos) (popOwnS i m) :=
  PS.mono (ps_expr (hb _ _ (pe_var hN hv hd hcd) (sa_one h hst)) hsw) fun D σ H ⟨ρ, μ, F, st, s, w⟩ => by
  unfold popOwnS at w
  rw [M.gives_bind] at w
  obtain ⟨c, ec, w⟩ := getV_gives w
  rw [M.gives_bind] at w
  obtain ⟨a, ea, na, oa⟩ := own_at s hm ec
  cases c with
  | lst ds =>
    obtain ⟨f, z, vs, e1, r⟩ := id oa
    refine ⟨.ref a, ea, .inl ⟨rfl, _, .inl (.inl e1)⟩, tkl_one s.env s.sto (M.gives_mono w fun d st1 w1 u μ1 F1 H1 p1 s1 ru => ?_)⟩
    rw [M.gives_bind] at w1
    obtain ⟨y, c', ep, w2⟩ := ofOP_gives w1
    have ru' : RK (gs X cl) .val H μ1 F1 H1 d u := ru
    obtain ⟨vs', yv, n, hq, ry, new, fin⟩ := popAt_obj ep (oa.post p1 na) ru'
    exact fin _ (w2 σ μ1 F1 _ ((s.step p1 s1).mut hm ec ea hq (fun x q => by cases q) new (fun _ _ _ q => by cases q)) p1.subF p1.mu)
  | _ =>
    exfalso
    refine M.gives_det w |>.elim fun d h => h.elim fun st1 h => ?_
    have h := h.2
    rw [M.gives_bind] at h
    obtain ⟨y, c', ep, _⟩ := ofOP_gives h
    cases d <;> cases ep
/-- o.pop(e), o a list of the store -/
def popRef (o k : D) : M D := fun st => match o with
  | .ref l => match st[l]? with
    | some c => match popAt c k with
      | some (y, c') => .ok y (st.set l c')
      | none => .bad
    | none => .bad
  | _ => .bad
theorem popRef_gives {o k : D} {st : Sto} {P : D → Sto → Prop} (h : (popRef o k).gives st P) : ∃ l c y c', o = .ref l ∧ st[l]? = some c ∧ popAt c k = some (y, c') ∧ P y (st.set l c') := by
  unfold popRef M.gives at h
  cases o <;> try exact h.elim
  rename_i l
  simp only at h
  cases e : st[l]? with
  | none => rw [e] at h; exact h.elim
  | some c =>
    rw [e] at h
    simp only at h
    cases e2 : popAt c k with
    | none => rw [e2] at h; exact h.elim
    | some p => rw [e2] at h; exact ⟨l, c, p.1, p.2, rfl, e, e2, h⟩
def needLst (d : D) : M Unit := do
  let x ← view d
  match x with
  | .lst _ => pure ()
  | _ => M.bad
def popRefM (mo mk : Env → M D) : Env → M D := fun ρ => do
  let o ← mo ρ
  let _ ← needLst o
  let k ← mk ρ
  popRef o k
theorem sk_popRef {o e : Expr} {apos cpos : Pos} {mo mk : Env → M D} (ho : SK cl md X .val o mo) (he : SK cl md X .val e mk) (hst : starEach [e] X.env = [(false, eval e X.env)] := by rfl)
    (hb : Bm1 X "list" rPopAt o "pop" apos e cpos := by intro _ _ ho ha; exact pe_bm PySem.F.plainAttrs_list PySem.F.slot_list_pop PySem.F.type_list_pop mt_popAt ho ha) : SK cl md X .val (.Call (.Attribute o "pop" apos) [e] [] cpos) (popRefM mo mk) :=
  PE.mono (hb _ _ ho (sa_one he hst)) fun σ H Q ⟨ρ, μ, F, st, hE, hS, w⟩ => by
  refine ⟨ρ, μ, F, st, hE, hS, ?_⟩
  unfold popRefM at w
  rw [M.gives_bind] at w
  refine M.gives_mono w fun x st1 w1 xv μ1 F1 H1 p1 s1 r1 => ?_
  rw [M.gives_bind] at w1
  unfold needLst at w1
  rw [M.gives_bind] at w1
  have r1' : RK (gs X cl) .val H μ1 F1 H1 x xv := r1
  obtain ⟨x', vx, w1⟩ := view_gives s1 r1' w1
  cases x' <;> try exact w1.elim
  obtain ⟨a, vs, rfl, hq, rl, _⟩ := vr_lst s1.sub vx
  have w1 : (do let k ← mk ρ; popRef x k).gives st1 (Want (gs X cl) .val μ F H Q) := w1
  rw [M.gives_bind] at w1
  refine ⟨.inl ⟨rfl, _, .inl (.inl hq)⟩, tkl_one (hE.post p1) s1 (M.gives_mono w1 fun k st2 w2 kv μ2 F2 H2 p2 s2 r2 => ?_)⟩
  obtain ⟨l, c, y, c', rfl, ec, ep, w3⟩ := popRef_gives w2
  obtain ⟨a', ea, hl⟩ := (show Rp (gs X cl) μ2 F2 (.ref l) (.ref a) from Rp.post p2 r1)
  cases ea
  have r2' : RK (gs X cl) .val H1 μ2 F2 H2 k kv := r2
  obtain ⟨vs', yv, n, hq', ry, new, fin⟩ := popAt_obj ep (s2.obj l a c hl ec) r2'
  exact fin _ (w3 yv μ2 F2 _ ((p1.trans p2).putAt hl ⟨_, hq'⟩) (s2.putAt hl hq' (fun x q => by cases q) new) ry)

def insAt (c i d : D) : Option D := match c, i with
  | .lst ds, .int k => if 0 ≤ k ∧ k < 16777216 ∧ ds.length < 16777216 then some (.lst (ds.take k.toNat ++ [d] ++ ds.drop k.toNat)) else none
  | _, _ => none
def insOwnS (i : Nat) (m n : Env → M D) : MS := fun ρ => do
  let c ← getV ρ i
  let k ← m ρ
  let d ← n ρ
  let c' ← ofO (insAt c k d)
  pure (.nx, ρ.set i (some c'))
def rIns : V → List V → Hp → VK → Prop := fun x vs H Q => ∃ (l : Addr) (xs : List V) (i : Int) (y : V), x = .ref l ∧ vs = [.int i, y] ∧ H l = some (.lst xs) ∧ xs.length < sizeLine ∧ 0 ≤ i ∧ i < 2 ^ 63 ∧ Q .non (upd H l (.lst (xs.take i.toNat ++ [y] ++ xs.drop i.toNat)))
def Bm2 (X : Cx) (T : String) (r : V → List V → Hp → VK → Prop) (o : Expr) (n : Str) (apos : Pos) (e f : Expr) (cpos : Pos) : Prop := ∀ to t, PE X o to → PA X [e, f] t → PE X (.Call (.Attribute o n apos) [e, f] [] cpos) (tBM X.K T r to t)
/-- x.insert(e, f) -/
theorem ss_insert (i : Nat) {x : Str} {e f : Expr} {p apos cpos pos : Pos} {m n : Env → M D} (h : SK cl md X .val e m) (h2 : SK cl md X .val f n) (hm : md[i]? = some .own := by rfl) (hN : X.N[i]? = some x := by rfl) (hv : Vis X.env.scope x := by first | exact Or.inl rfl | exact Or.inr (Or.inl rfl) | exact Or.inr (Or.inr rfl)) (hd : (x == ("__debug__" : Str)) = false := by decide)
    (hcd : (x == ("__classdict__" : Str)) = false := by decide) (hst : starEach [e, f] X.env = (false, eval e X.env) :: starEach [f] X.env := by rfl) (hst2 : starEach [f] X.env = [(false, eval f X.env)] := by rfl)
    (hb : Bm2 X "list" rIns (.Name x p) "insert" apos e f cpos := by intro _ _ ho ha; exact pe_bm PySem.F.plainAttrs_list PySem.F.slot_list_insert PySem.F.type_list_insert mt_insert ho ha)
    (hsw : swapsWith (.Call (.Attribute (.Name x p) "insert" apos) [e, f] [] cpos) none pos.line X.env = pure false := by rfl) : SS cl md B X (.Expr (.Call (.Attribute (.Name x p) "insert" apos) [e, f] [] cpos) pos) (insOwnS i m n) :=
  PS.mono (ps_expr (hb _ _ (pe_var hN hv hd hcd) (sa_cons h (sa_one h2 hst2) hst)) hsw) fun D σ H ⟨ρ, μ, F, st, s, w⟩ => by
  unfold insOwnS at w
  rw [M.gives_bind] at w
  obtain ⟨c, ec, w⟩ := getV_gives w
  rw [M.gives_bind] at w
  obtain ⟨a, ea, na, oa⟩ := own_at s hm ec
  have isl : ∃ ds, c = .lst ds := by
    obtain ⟨d, st1, _, h⟩ := M.gives_det w
    rw [M.gives_bind] at h
    obtain ⟨d2, st2, _, h⟩ := M.gives_det h
    rw [M.gives_bind] at h
    obtain ⟨c', ep, _⟩ := ofO_gives h
    cases c <;> first | exact ⟨_, rfl⟩ | (cases d <;> cases ep)
  obtain ⟨ds, rfl⟩ := isl
  obtain ⟨ff, z, vs, e1, r⟩ := id oa
  refine ⟨.ref a, ea, .inl ⟨rfl, _, .inl (.inl e1)⟩, ρ, μ, F, st, s.env, s.sto, ?_⟩
  rw [M.gives_bind]
  refine M.gives_mono w fun d st1 w1 => ?_
  rw [M.gives_bind] at w1 ⊢
  show M.gives (n ρ >>= fun x => pure [x]) st1 _
  rw [M.gives_bind]
  refine M.gives_mono w1 fun d2 st2 w2 => ?_
  show WantL _ _ _ _ _ _ [d, d2] st2
  intro us μ1 F1 H1 p1 s1 ⟨l1, l2, r1⟩
  match us, l2 with
  | [u, v], _ =>
    have ru := r1 0 .val d u rfl rfl rfl
    have rv := r1 1 .val d2 v rfl rfl rfl
    rw [M.gives_bind] at w2
    obtain ⟨c', ep, w2⟩ := ofO_gives w2
    unfold insAt at ep
    cases d <;> try (cases ep; done)
    rename_i k
    simp only at ep
    split at ep
    · rename_i hk
      cases ep
      have e2 : H1 a = some (.lst vs) := p1.keep _ _ e1 na
      have r' := RpL.post p1 r
      have rv' : Rp (gs X cl) μ1 F1 d2 v := rv
      refine ⟨a, vs, k, v, rfl, by rw [rk_int ru], e2, by rw [rpl_len r]; exact line_eq hk.2.2, hk.1, by omega, ?_⟩
      refine w2 σ μ1 F1 _ ((s.step p1 s1).mut hm ec ea e2 (fun x q => by cases q) ⟨p1.unfrz e1 ff, ?_, _, upd_same, rpl_app (rpl_app (rpl_take _ r') ⟨v, [], rfl, rv', rfl⟩) (rpl_drop _ r')⟩ (fun _ _ _ q => by cases q)) p1.subF p1.mu
      simp only [List.length_append, List.length_take, List.length_drop, List.length_cons, List.length_nil]
      rw [sizeLine_eq]
      omega
    · cases ep

/-! ### a, b = x, y -/
def kdOf : Md → Kd
  | .val => .val
  | .bor => .bor
  | .own => .fre
theorem Sit.setO {G : Gs} {ρ : Env} {σ : L2.St} {μ μ1 : List Addr} {F F1 H H1 : Hp} {st st1 : Sto} {i : Nat} {d : D} {v : V} (s : Sit G md B ρ σ μ F H st) (p1 : Post μ F H μ1 F1 H1) (s1 : StOk G μ1 F1 H1 st1) (hm : md[i]? = some .own) (r : RK G .fre H μ1 F1 H1 d v) :
    Sit G md B (ρ.set i (some d)) (σ.set i (some v)) μ1 F1 H1 st1 := by
  obtain ⟨a, rfl, n, z, o⟩ := r
  have s' := s.step p1 s1
  have hr : i < ρ.length := by rw [← s.env.mdl]; exact (List.getElem?_eq_some_iff.mp hm).1
  have hs : i < σ.length := by rw [← s.env.len]; exact hr
  refine ⟨s.env.setO p1 n hm o, s1, s'.post, fun j e b e1 e2 e3 => ?_⟩
  by_cases hj : i = j
  · subst hj
    rw [List.getElem?_set_self hs] at e3; cases e3
    exact ⟨s.post.free n, fun C dx fv q => s.post.free (z C dx fv q)⟩
  · rw [List.getElem?_set_ne hj] at e2 e3
    exact s'.fre j e b e1 e2 e3
section
variable {G : Gs} {ρ : Env} {σ : L2.St} {μ μ1 : List Addr} {F F1 H H1 : Hp} {st st1 : Sto} {i j l : Nat} {d e f : D} {v u w : V} {mi mj ml : Md}
theorem Sit.fill (s : Sit G md B ρ σ μ F H st) (p1 : Post μ F H μ1 F1 H1) (s1 : StOk G μ1 F1 H1 st1) (hm : md[i]? = some mi) (hb : mi ≠ .bor) (r : RK G (kdOf mi) H μ1 F1 H1 d v) : Sit G md B (ρ.set i (some d)) (σ.set i (some v)) μ1 F1 H1 st1 := by
  cases mi with
  | val => exact (s.step p1 s1).setV hm r
  | bor => exact absurd rfl hb
  | own => exact s.setO p1 s1 hm r
theorem Sit.two (s : Sit G md B ρ σ μ F H st) (p1 : Post μ F H μ1 F1 H1) (s1 : StOk G μ1 F1 H1 st1) (hi : md[i]? = some mi) (hj : md[j]? = some mj) (ne : i ≠ j) (bi : mi ≠ .bor) (bj : mj ≠ .bor) (one : mi = .val ∨ mj = .val) (ri : RK G (kdOf mi) H μ1 F1 H1 d v) (rj : RK G (kdOf mj) H μ1 F1 H1 e u) :
    Sit G md B ((ρ.set i (some d)).set j (some e)) ((σ.set i (some v)).set j (some u)) μ1 F1 H1 st1 := by
  rcases one with h | h
  · subst h
    rw [List.set_comm _ _ ne, List.set_comm _ _ ne]
    exact (s.fill p1 s1 hj bj rj).setV hi ri
  · subst h
    exact (s.fill p1 s1 hi bi ri).setV hj rj
theorem Sit.three (s : Sit G md B ρ σ μ F H st) (p1 : Post μ F H μ1 F1 H1) (s1 : StOk G μ1 F1 H1 st1) (hi : md[i]? = some mi) (hj : md[j]? = some mj) (hl : md[l]? = some ml) (nij : i ≠ j) (nil : i ≠ l) (njl : j ≠ l) (bi : mi ≠ .bor) (bj : mj ≠ .bor) (bl : ml ≠ .bor)
    (one : (mi = .val ∧ mj = .val) ∨ (mi = .val ∧ ml = .val) ∨ (mj = .val ∧ ml = .val)) (ri : RK G (kdOf mi) H μ1 F1 H1 d v) (rj : RK G (kdOf mj) H μ1 F1 H1 e u) (rl : RK G (kdOf ml) H μ1 F1 H1 f w) :
    Sit G md B (((ρ.set i (some d)).set j (some e)).set l (some f)) (((σ.set i (some v)).set j (some u)).set l (some w)) μ1 F1 H1 st1 := by
  rcases one with ⟨h1, h2⟩ | ⟨h1, h2⟩ | ⟨h1, h2⟩
  · subst h1 h2
    rw [List.set_comm (i := j) (j := l) _ _ njl, List.set_comm (i := i) (j := l) _ _ nil, List.set_comm (i := j) (j := l) _ _ njl, List.set_comm (i := i) (j := l) _ _ nil]
    exact ((s.fill p1 s1 hl bl rl).setV hi ri).setV hj rj
  · subst h1 h2
    exact (s.two p1 s1 hi hj nij (by decide) bj (.inl rfl) ri rj).setV hl rl
  · subst h1 h2
    exact (s.two p1 s1 hi hj nij bi (by decide) (.inr rfl) ri rj).setV hl rl
end
def par2S (i j : Nat) (m : Env → M (List D)) : MS := fun ρ => do
  let ds ← m ρ
  match ds with
  | [d, e] => pure (.nx, (ρ.set i (some d)).set j (some e))
  | _ => M.bad
def par3S (i j l : Nat) (m : Env → M (List D)) : MS := fun ρ => do
  let ds ← m ρ
  match ds with
  | [d, e, f] => pure (.nx, ((ρ.set i (some d)).set j (some e)).set l (some f))
  | _ => M.bad
theorem ss_par2 (i j : Nat) (mi mj : Md) {x y : Str} {a b : Expr} {px py pt pos : Pos} {kt k2 pt2} {m : Env → M (List D)} (hc : X.calm = true) (hN : X.N.Nodup) (ha : SA cl md X [kdOf mi, kdOf mj] [a, b] m) (hmi : md[i]? = some mi := by rfl) (hmj : md[j]? = some mj := by rfl)
    (hi : X.N[i]? = some x := by rfl) (hj : X.N[j]? = some y := by rfl) (hij : i ≠ j := by decide) (bi : mi ≠ .bor := by decide) (bj : mj ≠ .bor := by decide) (one : mi = .val ∨ mj = .val := by decide)
    (hx : X.env.scope.names.lookup x = some .local := by rfl) (hy : X.env.scope.names.lookup y = some .local := by rfl)
    (hw : swappedStores [.Tuple [.Name x px, .Name y py] kt pt] (.Tuple [a, b] k2 pt2) X.env = pure (some [x, y]) := by rfl)
    (hs : swapsWithSole [.Tuple [.Name x px, .Name y py] kt pt] (.Tuple [a, b] k2 pt2) pos.line X.env = pure false := by rfl) :
    SS cl md B X (.Assign [.Tuple [.Name x px, .Name y py] kt pt] (.Tuple [a, b] k2 pt2) pos) (par2S i j m) :=
  PS.mono (ps_par hc hN hi hj hij hx hy ha hw hs) fun D σ H ⟨ρ, μ, F, st, s, w⟩ => by
  refine ⟨ρ, μ, F, st, s.env, s.sto, ?_⟩
  unfold par2S at w
  rw [M.gives_bind] at w
  refine M.gives_mono w fun ds st1 w1 us μ1 F1 H1 p1 s1 ⟨l1, l2, r1⟩ => ?_
  match ds, us, l1, l2 with
  | [d, e], [v, u], _, _ => exact ⟨v, u, rfl, w1 _ μ1 F1 H1 (s.two p1 s1 hmi hmj hij bi bj one (r1 0 _ d v rfl rfl rfl) (r1 1 _ e u rfl rfl rfl)) p1.subF p1.mu⟩
theorem ss_par3 (i j l : Nat) (mi mj ml : Md) {x y z : Str} {a b c : Expr} {px py pz pt pos : Pos} {kt k2 pt2} {m : Env → M (List D)} (hc : X.calm = true) (hN : X.N.Nodup) (ha : SA cl md X [kdOf mi, kdOf mj, kdOf ml] [a, b, c] m) (hmi : md[i]? = some mi := by rfl) (hmj : md[j]? = some mj := by rfl) (hml : md[l]? = some ml := by rfl)
    (hi : X.N[i]? = some x := by rfl) (hj : X.N[j]? = some y := by rfl) (hl : X.N[l]? = some z := by rfl) (hij : i ≠ j := by decide) (hil : i ≠ l := by decide) (hjl : j ≠ l := by decide) (bi : mi ≠ .bor := by decide) (bj : mj ≠ .bor := by decide) (bl : ml ≠ .bor := by decide)
    (one : (mi = .val ∧ mj = .val) ∨ (mi = .val ∧ ml = .val) ∨ (mj = .val ∧ ml = .val) := by decide)
    (hx : X.env.scope.names.lookup x = some .local := by rfl) (hy : X.env.scope.names.lookup y = some .local := by rfl) (hz : X.env.scope.names.lookup z = some .local := by rfl)
    (hw : swappedStores [.Tuple [.Name x px, .Name y py, .Name z pz] kt pt] (.Tuple [a, b, c] k2 pt2) X.env = pure (some [x, y, z]) := by rfl)
    (hs : swapsWithSole [.Tuple [.Name x px, .Name y py, .Name z pz] kt pt] (.Tuple [a, b, c] k2 pt2) pos.line X.env = pure false := by rfl) :
    SS cl md B X (.Assign [.Tuple [.Name x px, .Name y py, .Name z pz] kt pt] (.Tuple [a, b, c] k2 pt2) pos) (par3S i j l m) :=
  PS.mono (ps_par3 hc hN hi hj hl hij hil hjl hx hy hz ha hw hs) fun D σ H ⟨ρ, μ, F, st, s, w⟩ => by
  refine ⟨ρ, μ, F, st, s.env, s.sto, ?_⟩
  unfold par3S at w
  rw [M.gives_bind] at w
  refine M.gives_mono w fun ds st1 w1 us μ1 F1 H1 p1 s1 ⟨l1, l2, r1⟩ => ?_
  match ds, us, l1, l2 with
  | [d, e, f], [v, u, q], _, _ => exact ⟨v, u, q, rfl, w1 _ μ1 F1 H1 (s.three p1 s1 hmi hmj hml hij hil hjl bi bj bl one (r1 0 _ d v rfl rfl rfl) (r1 1 _ e u rfl rfl rfl) (r1 2 _ f q rfl rfl rfl)) p1.subF p1.mu⟩

/-! ### a, b = e -/
def unpS (m : Env → M D) (g : D → Env → Option Env) : MS := fun ρ => do
  let d ← m ρ
  match g d ρ with
  | some ρ1 => pure (.nx, ρ1)
  | none => M.bad
theorem ss_unp {t e : Expr} {pos : Pos} {ns : List Nat} {m : Env → M D} {g : D → Env → Option Env} (h : SK cl md X .val e m) (hg : SG cl md X ns t g) (hv : ∀ i ∈ ns, md[i]? = some .val)
    (hs : swapsWithSole [t] e pos.line X.env = pure false := by rfl) (hw : swappedStores [t] e X.env = pure none := by rfl)
    (h1 : (assignEach [t] X.env).map (·.2) = [assign t X.env] := by rfl) : SS cl md B X (.Assign [t] e pos) (unpS m g) :=
  PS.mono (ps_asg h hg hs hw h1) fun D σ H ⟨ρ, μ, F, st, s, w⟩ => by
  refine ⟨ρ, μ, F, st, s.env, s.sto, ?_⟩
  unfold unpS at w
  rw [M.gives_bind] at w
  refine M.gives_mono w fun d st1 w1 v μ1 F1 H1 p1 s1 r1 => ?_
  cases eg : g d ρ with
  | none => rw [eg] at w1; exact w1.elim
  | some ρ1 =>
    rw [eg] at w1
    have t1 := s.step p1 s1
    refine ⟨ρ, μ1, F1, d, ρ1, t1.env, s1.sub, r1, eg, fun σ3 hE3 hl3 hσ3 => w1 σ3 μ1 F1 H1 ⟨hE3, s1, t1.post, fun j e a e1 e2 e3 => ?_⟩ p1.subF p1.mu⟩
    have nj : j ∉ ns := fun q => by rw [hv j q] at e1; cases e1
    obtain ⟨z1, z2⟩ := hσ3 j nj
    rw [z1] at e3
    rw [z2] at e2
    exact t1.fre j e a e1 e2 e3
end
end Sh
namespace Sh
open PySem PySem.Spec PyProof.Rows L2
section
variable {cl : String → Option Addr} {md : List Md} {X : Cx} {B : Bs} {ka kb kr : Kd}
/-! ### a text is walked sign by sign -/
def strItems (d : D) : M (List D) := match d with
  | .str s => pure (s.cps.toList.map fun c => .str ⟨#[c]⟩)
  | _ => M.bad
theorem it_str {G : Gs} {s : Str} (ok : okS s = true) : ItOk G (Its s) (fun _ _ _ => True) (s.cps.toList.map fun c => .str ⟨#[c]⟩) where
  keep := fun _ _ _ _ _ _ _ _ => trivial
  go := fun i μ F H _ _ hi => by simpa [Its] using hi
  yld := fun i μ F H x H' d st _ hs hd ⟨e, c, hc, hx⟩ => by
    subst e hx
    refine ⟨F, .refl, hs, ?_⟩
    rw [List.getElem?_map, Array.getElem?_toList, hc] at hd
    simp only [Option.map_some, Option.some.injEq] at hd
    subst hd
    refine ⟨rfl, okS_mk (by show (1 : Nat) ≤ 16777216; decide) ?_⟩
    have h2 := okS_ok ok
    unfold PyData.strOk at h2 ⊢
    rw [Array.all_eq_true_iff_forall_mem] at h2
    simpa using h2 c (Array.mem_of_getElem? hc)
  len := by rw [List.length_map, Array.length_toList]; exact okS_len ok
  stop := fun i μ F H _ _ hi => by simpa [Its] using hi
theorem si_str {tg x : Expr} {m : Env → M D} (h : SK cl md X .val x m) : SI cl md X tg x (fun ρ => do let d ← m ρ; strItems d) := PI.mono (pi_str h) fun σ H R ⟨ρ, μ, F, st, hE, hS, w⟩ => by
  refine ⟨ρ, μ, F, st, hE, hS, ?_⟩
  rw [M.gives_bind] at w
  refine M.gives_mono w fun d st1 w1 v μ1 F1 H1 p1 s1 r1 => ?_
  cases d <;> try exact w1.elim
  obtain ⟨rfl, ok⟩ := r1
  exact ⟨_, rfl, w1 _ _ μ1 F1 H1 p1 s1 (it_str ok) trivial⟩
theorem sis_str {tg x : Expr} {m : Env → M D} (h : SK cl md X .val x m) : SIS cl md B X tg x (fun ρ => do let d ← m ρ; strItems d) := PI.mono (pi_str h) fun σ H R ⟨ρ, μ, F, st, hE, hS, w⟩ => by
  refine ⟨ρ, μ, F, st, hE, hS, ?_⟩
  rw [M.gives_bind] at w
  refine M.gives_mono w fun d st1 w1 v μ1 F1 H1 p1 s1 r1 => ?_
  cases d <;> try exact w1.elim
  obtain ⟨rfl, ok⟩ := r1
  exact ⟨_, rfl, w1 _ _ μ1 F1 H1 p1 s1 (it_str ok) (fun _ _ _ _ _ _ _ _ _ _ _ => trivial) trivial⟩
/-! ### the ifs of a comprehension -/
theorem pts_none : PTs X [] (tKB (gs X cl) md fun _ => pure true) := by
  refine ⟨fun pins s σ H Q I ⟨ρ, μ, F, st, hE, hS, w⟩ => pts_nil.run pins s σ H Q I (w μ F H .refl hS)⟩
theorem pts_some {c : Expr} {m : Env → M Bool} (h : ST cl md X c m) : PTs X [c] (tKB (gs X cl) md m) := pts_one h
/-! ### f(k = v) -/
theorem sk_callK0 {pk : List Kd} {rk : Kd} {f : List D → M D} {k : Nat} {a : Addr} {fd : FuncData} {ps ks : List Str} {g : List Value → List Value → List Value} {gV : List V → List V → List V} {x : Str} {nm : Option Str} {p kpos pos : Pos} {e : Expr} {m : Env → M D}
    (F : FnOk X.prog X.w X.K X.mg X.base CX0 k a fd ps (spF (gs X cl) [ka] rk f)) (hr : Room k X.A) (hg : Gl X x) (hm : X.mg x = some (.ref a)) (hk : PySem.W.keepIn X.K (.ref a) = true) (hb : KBinds X.K fd ps ks g gV) (hgV : ∀ v, gV [] [v] = [v])
    (ha : SK cl md X ka e m) (hfr : ka ≠ .fre) (hdb : (x == ("__debug__" : Str)) = false := by decide) (hall : (backToKw pos (keywordEach [⟨nm, e, kpos⟩] X.env)).all (·.1.isSome) = true := by rfl) (hks : (backToKw pos (keywordEach [⟨nm, e, kpos⟩] X.env)).filterMap (·.1) = ks := by rfl)
    (hpl : ((backTo pos (starEach [] X.env)).any (·.1) || (backToKw pos (keywordEach [⟨nm, e, kpos⟩] X.env)).any (·.1.isNone)) = false := by rfl) :
    SK cl md X rk (.Call (.Name x p) [] [⟨nm, e, kpos⟩] pos) (fun ρ => do let d ← m ρ; f [d]) := by
  refine ⟨fun pins s σ H Q I h => wpAny_Call_Name_kw (ld_glob I hg hm ?_ hdb)⟩
  refine PySem.W.callWith_KW0 (h₀ := X.base) I.ok.mod.kin hk hall (thn ((pk_cons ha pk_nil).run pos pins s σ H (fun zs H2 => spF (gs X cl) [ka] rk f (gV [] zs) H2 Q E0) I ?_) fun ws s2 ⟨zs, H2, I2, rz, q2⟩ => ⟨I2.kIn, ?_⟩) hpl
  · obtain ⟨ρ, μ, Fr, st, hE, hS, w⟩ := h
    refine ⟨ρ, μ, Fr, st, hE, hS, ?_⟩
    rw [M.gives_bind] at w
    refine M.gives_mono w fun d st1 w1 v μ1 F1 H1 p1 s1 r1 => ?_
    refine ⟨μ1, F1, [d], st1, s1, rfl, by rw [hgV]; rfl, fun i k' d' v' e1 e2 e3 => ?_, M.gives_mono w1 fun d st2 w2 => w2.after p1⟩
    rw [hgV] at e3
    cases i with
    | succ i => simp at e1
    | zero =>
      simp only [List.getElem?_cons_zero, Option.some.injEq] at e1 e2 e3
      subst e1 e2 e3
      cases ka with
      | val => exact r1
      | bor => exact r1
      | fre => exact absurd rfl hfr
  · rw [hks]
    exact run_fnk (us := []) (vs := []) F hr hb pass0 I2 .nil rz q2
/-! ### is None -/
def isND (f : Bool → Bool) : D → M D
  | .non => pure (.bl (f true))
  | _ => pure (.bl (f false))
theorem rp_non {G : Gs} {μ : List Addr} {F : Hp} : ∀ {d : D}, Rp G μ F d .non → d = .non
  | .non, _ => rfl
  | .bl b, h => nomatch (show V.non = V.bl b from h)
  | .int i, h => nomatch (show V.non = V.int i from h)
  | .str s, h => nomatch h.1
  | .lst ds, ⟨_, _, _, h, _⟩ => nomatch h
  | .frl ds, ⟨_, _, _, h, _⟩ => nomatch h
  | .tup ds, ⟨_, _, _, h, _⟩ => nomatch h
  | .dic ds, ⟨_, _, _, h, _⟩ => nomatch h
  | .dit ds, ⟨_, _, _, h, _⟩ => nomatch h
  | .obj c fs, ⟨_, _, _, _, h, _⟩ => nomatch h
  | .ref l, ⟨_, h, _⟩ => nomatch h
def isNoneD (f : Bool → Bool) (x y : D) : M D := match y with
  | .non => isND f x
  | _ => M.bad
theorem o2_isN : Op2 (gs X cl) ka .val .val (fun x y H Q => y = .non ∧ Q (.bl (decide (x = .non))) H) (isNoneD id) := fun μ F H H1 H2 st d e v u Q s r1 r2 w => by
  cases e <;> try exact w.elim
  have r2 : u = .non := r2
  subst r2
  refine ⟨rfl, ?_⟩
  have vr := rk_vr r1
  by_cases q : v = .non
  · subst q
    have e : d = .non := by
      rcases vr with vr | ⟨a, h, _⟩
      · exact rp_non vr
      · cases h
    subst e
    exact w _ μ F H .refl s rfl
  · rw [decide_eq_false q]
    have nd : d ≠ .non := fun e => by
      subst e
      rcases vr with vr | ⟨a, _, o⟩
      · exact q vr
      · exact o.elim
    cases d <;> first | exact absurd rfl nd | exact w _ μ F H .refl s rfl
/-! ### names of the module -/
theorem sk_gstr {x : Str} {s : Str} {t : Tok} {pos : Pos} (hg : Gl X x) (hm : X.mg x = some (.str s t)) (ok : okS s = true) (hd : (x == ("__debug__" : Str)) = false := by decide) : SK cl md X .val (.Name x pos) (fun _ => pure (.str s)) :=
  PE.mono (pe_glob (v := .str s) hg hm ⟨t, rfl⟩ hd) fun σ H Q ⟨ρ, μ, F, st, hE, hS, w⟩ => w _ μ F H .refl hS ⟨rfl, ok⟩
theorem sk_gint {x : Str} {s : Int} {t : Tok} {pos : Pos} (hg : Gl X x) (hm : X.mg x = some (.int s t)) (hd : (x == ("__debug__" : Str)) = false := by decide) : SK cl md X .val (.Name x pos) (fun _ => pure (.int s)) :=
  PE.mono (pe_glob (v := .int s) hg hm ⟨t, rfl⟩ hd) fun σ H Q ⟨ρ, μ, F, st, hE, hS, w⟩ => w _ μ F H .refl hS rfl
/-- a tuple of texts -/
theorem sk_gtup {x : Str} {ss : List Str} {a : Addr} {pos : Pos} {o : Obj} {its : Array Value} {n : Nat} (hg : Gl X x) (hm : X.mg x = some (.ref a)) (hk : X.K.lookup a = some o) (hc : o.cls = .type "tuple") (hd' : o.data = .seq its n) (hz : its.size ≤ 1000) (hv : Vals (ss.map V.str) its.toList) (ok : ∀ s ∈ ss, okS s = true) (hd : (x == ("__debug__" : Str)) = false := by decide) :
    SK cl md X .val (.Name x pos) (fun _ => pure (.tup (ss.map .str))) :=
  PE.mono (pe_glob (v := .ref a) hg hm rfl hd) fun σ H Q ⟨ρ, μ, F, st, hE, hS, w⟩ => w _ μ F H .refl hS ⟨by
    have := hv.length
    rw [List.length_map] at this ⊢
    rw [this, Array.length_toList]
    exact line_of hz, a, ss.map V.str, rfl, .inr ⟨o, its, n, hk, hc, hd', line_of hz, hv⟩, rpl_ofS ok⟩
/-! ### what is returned -/
/-- an expression behind which the def ends: one's own containers may be handed over -/
def tR (G : Gs) (md : List Md) (B : Bs) (m : Env → M D) : TE := fun σ H Q => ∃ ρ μ F st, Sit G md B ρ σ μ F H st ∧ (m ρ).gives st fun d st' => ∀ v μ' F' H', Post B.μ B.F B.H μ' F' H' → StOk G μ' F' H' st' → RK G B.rk B.H μ' F' H' d v → Q v H'
def SR (cl : String → Option Addr) (md : List Md) (B : Bs) (X : Cx) (e : Expr) (m : Env → M D) : Prop := PE X e (tR (gs X cl) md B m)
theorem sr_of {e : Expr} {m : Env → M D} (h : SK cl md X B.rk e m) : SR cl md B X e m := PE.mono h fun σ H Q ⟨ρ, μ, F, st, s, w⟩ => ⟨ρ, μ, F, st, s.env, s.sto, M.gives_mono w fun d st1 w1 v μ1 F1 H1 p1 s1 r1 => w1 v μ1 F1 H1 (s.post.trans p1) s1 (r1.base fun _ n => s.post.free n)⟩
theorem sr_own (i : Nat) {x : Str} {p : Pos} (hk : B.rk ≠ .bor) (hm : md[i]? = some .own := by rfl) (hN : X.N[i]? = some x := by rfl) (hv : Vis X.env.scope x := by first | exact Or.inl rfl | exact Or.inr (Or.inl rfl) | exact Or.inr (Or.inr rfl)) (hd : (x == ("__debug__" : Str)) = false := by decide)
    (hcd : (x == ("__classdict__" : Str)) = false := by decide) : SR cl md B X (.Name x p) (fun ρ => getV ρ i) := PE.mono (pe_var hN hv hd hcd) fun σ H Q ⟨ρ, μ, F, st, s, w⟩ => by
  obtain ⟨d, e, w⟩ := getV_gives w
  obtain ⟨h0, h1, α, h2, h3, h4⟩ := s.env
  obtain ⟨v, ev, q⟩ := h2 i .own d hm e
  refine ⟨v, ev, ?_⟩
  cases ha : α i with
  | none => rw [ha] at q; exact absurd rfl q.1
  | some a =>
    rw [ha] at q
    obtain ⟨q1, _, q2⟩ := q
    subst q1
    obtain ⟨f1, f2⟩ := s.fre i d a hm e ev
    cases hb : B.rk with
    | val =>
      obtain ⟨F2, p2, s2, r2⟩ := freeze s.post s.sto ⟨a, rfl, f1, f2, q2⟩
      exact w (.ref a) μ F2 H p2 s2 (by rw [hb]; exact r2)
    | bor => exact absurd hb hk
    | fre => exact w (.ref a) μ F H s.post s.sto (by rw [hb]; exact ⟨a, rfl, f1, f2, q2⟩)
theorem sr_if {c a b : Expr} {pos : Pos} {mc : Env → M Bool} {ma mb : Env → M D} (hc : ST cl md X c mc) (ha : SR cl md B X a ma) (hb : SR cl md B X b mb) : SR cl md B X (.IfExp c a b pos) (fun ρ => do let t ← mc ρ; if t = true then ma ρ else mb ρ) := PE.mono (pe_ifExp hc ha hb) fun σ H Q ⟨ρ, μ, F, st, s, w⟩ => by
  refine ⟨ρ, μ, F, st, s.env, s.sto, ?_⟩
  rw [M.gives_bind] at w
  refine M.gives_mono w fun t st1 w1 μ1 F1 H1 p1 s1 => ?_
  cases t
  · rw [if_neg Bool.false_ne_true] at w1 ⊢
    exact ⟨ρ, μ1, F1, st1, s.step p1 s1, w1⟩
  · rw [if_pos rfl] at w1 ⊢
    exact ⟨ρ, μ1, F1, st1, s.step p1 s1, w1⟩
theorem ss_retR {e : Expr} {pos : Pos} {m : Env → M D} (h : SR cl md B X e m) : SS cl md B X (.Return (some e) pos) (retS m) := PS.mono (ps_ret h) fun D σ H ⟨ρ, μ, F, st, s, w⟩ => by
  refine ⟨ρ, μ, F, st, s, ?_⟩
  unfold retS at w
  rw [M.gives_bind] at w
  exact M.gives_mono w fun d st1 w1 => w1
/-! ### o[k] = x, x a container of one's own that is not used any more -/
def isObjD : D → Bool
  | .obj _ _ => true
  | _ => false
theorem Sit.drop {G : Gs} {ρ : Env} {σ : L2.St} {μ : List Addr} {F H : Hp} {st : Sto} {i : Nat} {d : D} (s : Sit G md B ρ σ μ F H st) (hm : md[i]? = some .own) (hd : ρ[i]? = some (some d)) (nob : isObjD d = false) :
    ∃ a F2, σ[i]? = some (some (.ref a)) ∧ Sub F F2 ∧ Sit G md B (ρ.set i none) σ μ F2 H st ∧ Rp G μ F2 d (.ref a) := by
  obtain ⟨h0, h1, α, h2, h3, h4⟩ := id s.env
  obtain ⟨v, ev, q⟩ := h2 i .own d hm hd
  cases ha : α i with
  | none => rw [ha] at q; exact absurd rfl q.1
  | some a =>
    rw [ha] at q
    obtain ⟨q1, _, na, oa⟩ := q
    subst q1
    obtain ⟨f1, f2⟩ := s.fre i d a hm hd ev
    have fa := oa.frz
    -- every other container stands elsewhere
    have key : ∀ (u : HO), H a = some u → (∀ x, u ≠ .own x) → Rp G μ (upd F a u) d (.ref a) → ∃ a' F2, some (some (V.ref a)) = some (some (.ref a')) ∧ Sub F F2 ∧ Sit G md B (ρ.set i none) σ μ F2 H st ∧ Rp G μ F2 d (.ref a') := fun u hu nu r => by
      refine ⟨a, upd F a u, rfl, Sub.addR (Sub.refl _) fa, ⟨⟨by simp [h0], by simp [h1], fun j => if j = i then none else α j, fun j m e e1 e2 => ?_, fun j k b e1 e2 ne => ?_, fun j e2 => ?_⟩, s.sto.frz1 na hu (fun x h => absurd h (nu x)), s.post.frz1 fa f1, fun j e b e1 e2 e3 => ?_⟩, r⟩
      · have hj : i ≠ j := fun q => by
          subst q
          by_cases hl : i < ρ.length
          · rw [List.getElem?_set_self hl] at e2; cases e2
          · rw [List.getElem?_eq_none (by simpa using hl)] at e2; cases e2
        rw [List.getElem?_set_ne hj] at e2
        obtain ⟨v, e3, z⟩ := h2 j m e e1 e2
        refine ⟨v, e3, ?_⟩
        simp only [if_neg (Ne.symm hj)]
        have sF : Sub F (upd F a u) := Sub.addR (Sub.refl _) fa
        cases hβ : α j with
        | none => rw [hβ] at z; exact ⟨z.1, Rp.mono (Ext.refl _) sF _ _ z.2⟩
        | some b =>
          rw [hβ] at z
          have nb : b ≠ a := fun q => by subst q; exact h3 i j b ha hβ hj hm
          refine ⟨z.1, z.2.1, z.2.2.1, ?_⟩
          have oz := z.2.2.2
          have frz : (upd F a u) b = F b := upd_ne nb
          cases e <;> try exact oz.elim
          · obtain ⟨f, z', vs, q1, r'⟩ := oz
            exact ⟨by rw [frz]; exact f, z', vs, q1, RpL.mono (Ext.refl _) sF _ _ r'⟩
          · obtain ⟨f, z', L, q1, r'⟩ := oz
            exact ⟨by rw [frz]; exact f, z', L, q1, RpK.mono (Ext.refl _) sF _ _ r'⟩
          · obtain ⟨f, C, dx, fv, q1, q2, n2, f2', c, r'⟩ := oz
            refine ⟨by rw [frz]; exact f, C, dx, fv, q1, q2, n2, ?_, c, RpF.mono (Ext.refl _) sF _ _ r'⟩
            rw [upd_ne (show dx ≠ a from fun q => by subst q; rw [hu] at q2; exact nu _ (Option.some.inj q2))]
            exact f2'
          · obtain ⟨f, z', L, q1, r'⟩ := oz
            exact ⟨by rw [frz]; exact f, z', L, q1, RpE.mono (Ext.refl _) sF _ _ r'⟩
      · simp only at e1 e2
        split at e1
        · cases e1
        · split at e2
          · cases e2
          · exact h3 j k b e1 e2 ne
      · simp only
        split
        · rfl
        · rename_i hj
          exact h4 j fun d z => e2 d (by rw [List.getElem?_set_ne (fun q => hj q.symm)]; exact z)
      · have hj : i ≠ j := fun q => by
          subst q
          by_cases hl : i < ρ.length
          · rw [List.getElem?_set_self hl] at e2; cases e2
          · rw [List.getElem?_eq_none (by simpa using hl)] at e2; cases e2
        rw [List.getElem?_set_ne hj] at e2
        exact s.fre j e b e1 e2 e3
    rw [ev]
    cases d <;> try exact oa.elim
    · obtain ⟨f, zz, vs, e1, r⟩ := oa
      exact key _ e1 (fun x q => by cases q) ⟨zz, a, vs, rfl, upd_same, RpL.mono (Ext.refl _) (Sub.addR (Sub.refl _) f) _ _ r⟩
    · obtain ⟨f, zz, L, e1, r⟩ := oa
      exact key _ e1 (fun x q => by cases q) ⟨zz, a, L, rfl, upd_same, RpK.mono (Ext.refl _) (Sub.addR (Sub.refl _) f) _ _ r⟩
    · cases nob
    · obtain ⟨f, zz, L, e1, r⟩ := oa
      exact key _ e1 (fun x q => by cases q) ⟨zz, a, L, rfl, upd_same, RpE.mono (Ext.refl _) (Sub.addR (Sub.refl _) f) _ _ r⟩
def getMv (ρ : Env) (i : Nat) : M D := do
  let d ← getV ρ i
  if isObjD d = false then pure d else M.bad
def setRefMv (i : Nat) (mo mk : Env → M D) : MS := fun ρ => do
  let d ← getMv ρ i
  let o ← mo (ρ.set i none)
  let k ← mk (ρ.set i none)
  let _ ← putRef o k d
  pure (.nx, ρ.set i none)
theorem ss_setRefMv (i : Nat) {x : Str} {o e : Expr} {p spos pos : Pos} {mo mk : Env → M D} (hu : X.A.units + 1 < cLine) (ho : SK cl md X .val o mo) (hk : SK cl md X .val e mk) (hm : md[i]? = some .own := by rfl) (hN : X.N[i]? = some x := by rfl) (hvis : Vis X.env.scope x := by first | exact Or.inl rfl | exact Or.inr (Or.inl rfl) | exact Or.inr (Or.inr rfl)) (hd : (x == ("__debug__" : Str)) = false := by decide)
    (hcd : (x == ("__classdict__" : Str)) = false := by decide)
    (ha : ∀ v, assign (.Subscript o e spos) X.env v = (do
      let ov ← holding [v] (eval o X.env)
      let iv ← holding [v, ov] (eval e X.env)
      standAt spos
      holding [v, ov, iv] (setItem ov iv v)
      release [v, ov, iv] []) := by intro _; rfl)
    (hs : swapsWithSole [.Subscript o e spos] (.Name x p) pos.line X.env = pure false := by rfl) (hw : swappedStores [.Subscript o e spos] (.Name x p) X.env = pure none := by rfl)
    (h1 : (assignEach [.Subscript o e spos] X.env).map (·.2) = [assign (.Subscript o e spos) X.env] := by rfl) : SS cl md B X (.Assign [.Subscript o e spos] (.Name x p) pos) (setRefMv i mo mk) :=
  PS.mono (ps_asg (pe_var hN hvis hd hcd) (pg_sub ho hk (set_any hu) ha) hs hw h1) fun D σ H ⟨ρ, μ, F, st, s, w⟩ => by
  unfold setRefMv getMv at w
  rw [M.gives_bind, M.gives_bind] at w
  obtain ⟨d, ed, w⟩ := getV_gives w
  obtain ⟨nob, w⟩ := ite_gives w
  obtain ⟨a, F0, ea, f0, s0, r0⟩ := s.drop hm ed nob
  have w : (do let o ← mo (ρ.set i none); let k ← mk (ρ.set i none); let _ ← putRef o k d; pure (Fl.nx, ρ.set i none)).gives st (WantS (gs X cl) md B μ F D) := w
  refine ⟨.ref a, ea, ρ.set i none, μ, F0, st, s0.env, s0.sto, ?_⟩
  rw [M.gives_bind] at w
  refine M.gives_mono w fun dob st2 w2 ov μ2 F2 H2 p2 s2 r2 => ⟨ρ.set i none, μ2, F2, st2, s0.env.post p2, s2, ?_⟩
  rw [M.gives_bind] at w2
  refine M.gives_mono w2 fun dk st3 w3 kv μ3 F3 H3 p3 s3 r3 => ?_
  rw [M.gives_bind] at w3
  obtain ⟨l, c, c', rfl, ec, e', w4⟩ := putRef_gives w3
  obtain ⟨b, rfl, hl⟩ := (show Rp (gs X cl) μ3 F3 (.ref l) ov from Rp.post p3 r2)
  have oa := s3.obj l b c hl ec
  have r3' : RK (gs X cl) .val H2 μ3 F3 H3 dk kv := r3
  obtain ⟨u, n, hu', nu, new, _, fin⟩ := setIt_obj e' oa r3' (Rp.post p3 (Rp.post p2 r0))
  have p := p2.trans p3
  exact fin _ (w4 σ μ3 F3 _ (s0.step (p.putAt hl ⟨u, hu'⟩) (s3.putAt hl hu' nu new)) (f0.trans p.subF) p.mu)
end
end Sh
namespace Sh
open PySem PySem.Spec PyProof.Rows L2
section
variable {cl : String → Option Addr} {md : List Md} {X : Cx} {B : Bs} {ka kb kr : Kd}
theorem comp_read {elt tg iter : Expr} {ns vs : List Nat} {mi : Env → M (List D)} {g : D → Env → Option Env} {t : Env → M Bool} {e : Env → M D} (hv : ∀ i ∈ ns, i ∈ vs) {σ : L2.St} {H : Hp} {Q : VK}
    (q : tK (gs X cl) md .fre (fun ρ => do let ds ← mi ρ; let rs ← compD g t e (wipeE ρ vs) ds; pure (.lst rs)) σ H Q) : tLc (tKI (gs X cl) md mi) (tG (gs X cl) md ns g) (tKB (gs X cl) md t) (tK (gs X cl) md .val e) vs σ H Q := by
  obtain ⟨ρ, μ, F, st, hE, hS, w⟩ := q
  refine ⟨ρ, μ, F, st, hE, hS, ?_⟩
  rw [M.gives_bind] at w
  refine M.gives_mono w fun ds st1 w1 J K μ1 F1 H1 p1 s1 hJ hK A nA => ?_
  refine comp_run hv (fun _ _ _ _ q => q) (fun _ _ _ q => q) (fun _ _ _ q => q) hJ (hE.post p1) s1 hK nA ?_
  rw [M.gives_bind] at w1
  exact M.gives_mono w1 fun rs st2 w2 μ' F' H' p2 s2 r2 => w2 _ μ' F' H' (p1.trans p2) s2 (r2.base fun _ n => p1.free n)
theorem asg_read (i : Nat) {mi : Md} {m : Env → M D} (hm : md[i]? = some mi) (hb : mi ≠ .bor) {D : Ends} {σ : L2.St} {H : Hp} (q : tS (gs X cl) md B (setS i m) D σ H) : tK (gs X cl) md .fre m σ H fun v H1 => D.nx (σ.set i (some v)) H1 := by
  obtain ⟨ρ, μ, F, st, s, w⟩ := q
  refine ⟨ρ, μ, F, st, s.env, s.sto, ?_⟩
  unfold setS at w
  rw [M.gives_bind] at w
  refine M.gives_mono w fun d st1 w1 v μ1 F1 H1 p1 s1 r1 => ?_
  cases mi with
  | bor => exact absurd rfl hb
  | own => exact w1 _ μ1 F1 H1 (s.setO p1 s1 hm r1) p1.subF p1.mu
  | val =>
    obtain ⟨F2, p2, s2, r2⟩ := freeze p1 s1 r1
    exact w1 _ μ1 F2 H1 ((s.step p2 s2).setV hm r2) p2.subF p2.mu
/-- y = [e for x in xs if t] -/
theorem ss_setLc (i : Nat) {mi : Md} {y : Str} {py : Pos} {elt tg iter : Expr} {ifs : List Expr} {scope : Scope} {pos spos : Pos} {own : List (Str × Nat)} {ns : List Nat} {mw : Env → M (List D)} {g : D → Env → Option Env} {t : Env → M Bool} {e : Env → M D} (hc : X.calm = true) (hN : X.N.Nodup)
    (ok : blkC X.N X.env.scope scope own = true) (hv : ∀ i ∈ ns, i ∈ own.map (·.2)) (hi : SI cl md X tg iter mw) (hg : Blk X scope fun Y => SG cl md Y ns tg g) (ht : Blk X scope fun Y => PTs Y ifs (tKB (gs X cl) md t)) (he : Blk X scope fun Y => SK cl md Y .val elt e)
    (hy : X.N[i]? = some y := by rfl) (hyl : X.env.scope.names.lookup y = some .local := by rfl) (hm : md[i]? = some mi := by rfl) (hb : mi ≠ .bor := by decide)
    (hsw : swapsWith (.ListComp elt [⟨tg, iter, ifs, 0⟩] scope pos) (some (.Name y py)) spos.line X.env = pure true := by exact sw_true rfl rfl rfl (by decide +kernel))
    (hs : ∀ x, foldedSetIterable iter X.env x = pure x := by intro _; rfl) : SS cl md B X (.Assign [.Name y py] (.ListComp elt [⟨tg, iter, ifs, 0⟩] scope pos) spos) (setS i fun ρ => do let ds ← mw ρ; let rs ← compD g t e (wipeE ρ (own.map (·.2))) ds; pure (.lst rs)) :=
  PS.mono (ps_setLc (g := tG (gs X cl) md ns g) (tt := tKB (gs X cl) md t) (te := tK (gs X cl) md .val e) hc hN hy hyl hsw hi (blkOk_by ok) (fun s H C cc fp => hg s H C cc fp) (fun s H C cc fp => ht s H C cc fp) (fun s H C cc fp => he s H C cc fp) hs) fun D σ H q =>
    comp_read (elt := elt) (tg := tg) (iter := iter) hv (asg_read i hm hb q)
end
end Sh
namespace Sh
open PySem PySem.Spec PyProof.Rows L2
/-! ### the mirrors' words -/
abbrev eC (d : D) : Env → M D := fun _ => pure d
abbrev eV (i : Nat) : Env → M D := fun ρ => getV ρ i
abbrev e1 (g : D → M D) (m : Env → M D) : Env → M D := fun ρ => do let d ← m ρ; g d
abbrev e2 (g : D → D → M D) (m n : Env → M D) : Env → M D := fun ρ => do let x ← m ρ; let y ← n ρ; g x y
def eIf (c : Env → M Bool) (a b : Env → M D) : Env → M D := fun ρ => do let t ← c ρ; if t = true then a ρ else b ρ
abbrev tB (m : Env → M D) : Env → M Bool := fun ρ => do let x ← m ρ; asB x
abbrev tNot (m : Env → M Bool) : Env → M Bool := fun ρ => do let b ← m ρ; pure (!b)
abbrev eNot (m : Env → M D) : Env → M D := fun ρ => do let x ← m ρ; let b ← asB x; pure (.bl (!b))
abbrev lNil : Env → M (List D) := fun _ => pure []
abbrev lCons (m : Env → M D) (n : Env → M (List D)) : Env → M (List D) := fun ρ => do let x ← m ρ; let r ← n ρ; pure (x :: r)
abbrev eTup (m : Env → M (List D)) : Env → M D := fun ρ => do let ds ← m ρ; pure (.tup ds)
abbrev eLst (m : Env → M (List D)) : Env → M D := fun ρ => do let ds ← m ρ; pure (.lst ds)
abbrev eCall (f : List D → M D) (m : Env → M (List D)) : Env → M D := fun ρ => do let ds ← m ρ; f ds
abbrev eCallK (f : List D → M D) (m : Env → M D) : Env → M D := fun ρ => do let d ← m ρ; f [d]
abbrev oN : Env → M (Option Int) := fun _ => pure none
abbrev oS (m : Env → M D) : Env → M (Option Int) := fun ρ => do let x ← m ρ; let i ← asI x; pure (some i)
abbrev eSl (g : D → Option Int → Option Int → M D) (m : Env → M D) (l h : Env → M (Option Int)) : Env → M D := fun ρ => do let x ← m ρ; let i ← l ρ; let j ← h ρ; g x i j
abbrev iSeq (m : Env → M D) : Env → M (List D) := fun ρ => do let d ← m ρ; itemsD d
abbrev iStr (m : Env → M D) : Env → M (List D) := fun ρ => do let d ← m ρ; strItems d
abbrev iRng (m : Env → M D) : Env → M (List D) := fun ρ => do let d ← m ρ; rng1 d
abbrev eComp (vs : List Nat) (mi : Env → M (List D)) (g : D → Env → Option Env) (t : Env → M Bool) (e : Env → M D) : Env → M D := fun ρ => do let ds ← mi ρ; let rs ← compD g t e (wipeE ρ vs) ds; pure (.lst rs)
abbrev eSto (m : Env → M D) : Env → M D := fun ρ => do let d ← m ρ; allocD d
abbrev pNil : Env → M (List (D × D)) := fun _ => pure []
abbrev pCons (k v : Env → M D) (m : Env → M (List (D × D))) : Env → M (List (D × D)) := fun ρ => do let x ← k ρ; let y ← v ρ; let r ← m ρ; pure ((x, y) :: r)
abbrev eDisp (m : Env → M (List (D × D))) : Env → M D := fun ρ => do let ps ← m ρ; dispD ps
abbrev tYes : Env → M Bool := fun _ => pure true
abbrev forE (mi : Env → M (List D)) (g : D → Env → Option Env) (b : MS) : MS := fun ρ => do let ds ← mi ρ; forS g b ds ρ

/-! ### what stands in the module -/
structure Has (P : Program) (w : World) (K : PySem.W.Frag) (mg : Str → Option Value) (base : Heap) (x : Str) (k : Nat) (ps : List Str) (sp : Sp) : Prop where
  ex : ∃ (a : Addr) (fd : FuncData), FnG P w K mg base CX0 k a fd ps sp ∧ mg x = some (.ref a) ∧ PySem.W.keepIn K (.ref a) = true ∧ Binds K fd ps []
theorem Has.up {P : Program} {w : World} {K : PySem.W.Frag} {mg : Str → Option Value} {base : Heap} {x : Str} {j k : Nat} {ps : List Str} {sp : Sp} (h : Has P w K mg base x j ps sp) (l : j ≤ k) : Has P w K mg base x k ps sp :=
  let ⟨a, fd, F, r⟩ := h.ex; ⟨a, fd, F.up l, r⟩
section
variable {cl : String → Option Addr} {md : List Md} {X : Cx} {B : Bs}
theorem sk_callH {pk : List Kd} {rk : Kd} {f : List D → M D} {j k : Nat} {ps : List Str} {x : Str} {p pos : Pos} {e : Expr} {es : List Expr} {m : Env → M (List D)}
    (h : Has X.prog X.w X.K X.mg X.base x j ps (spF (gs X cl) pk rk f)) (hle : j ≤ k) (hgu : X.A.guards = some []) (hr : Room k X.A) (hg : Gl X x)
    (ha : SA cl md X pk (e :: es) m) (hfr : ∀ k ∈ pk, k ≠ .fre := by decide) (hdb : (x == ("__debug__" : Str)) = false := by decide) (he : starEach (e :: es) X.env = (false, eval e X.env) :: starEach es X.env := by rfl) (hpl : (backTo pos (starEach es X.env)).any (·.1) = false := by rfl) :
    SK cl md X rk (.Call (.Name x p) (e :: es) [] pos) (eCall f m) := by
  obtain ⟨a, fd, F, hm, hk, hb⟩ := h.ex
  exact sk_callG (F.up hle) hgu hr hg hm hk hb ha hfr hdb he hpl
theorem room_u {k n : Nat} {A : Around} (hr : Room k A) (hn : n ≤ 200) : A.units + n < cLine := by have := hr.un; omega
end
theorem run_fnkG {X : Cx} {k : Nat} {f : Addr} {fd : FuncData} {ps ks : List Str} {sp : Sp} {E : XK} {CX : CXT} {g : List Value → List Value → List Value} {gV : List V → List V → List V} {pins : List (Addr × Obj)} {σ : L2.St} {H : Hp} {s : Shared} {Q : VK} {us ws : List Value} {vs zs : List V}
    (F : FnG X.prog X.w X.K X.mg X.base CX k f fd ps sp) (hgu : X.A.guards = some []) (hr : Room k X.A) (hb : KBinds X.K fd ps ks g gV) (hx : Passes CX X E) (I : Inv X pins σ H s) (r : Vals vs us) (rz : Vals zs ws) (h : sp (gV vs zs) H Q E) :
    wpAny (model X.prog X.w) X.A (call (.ref f) us (ks.zip ws)) (EP X pins σ Q) X.xe s := by
  have rr := hb.rel r rz
  refine wpAny_call (codeAny_mono (F.grun X.A X.stack s H ⟨us, ks.zip ws⟩ (g us ws) (gV vs zs) Q E hgu hr I.env0 (hb.to s us ws I.kIn (by rw [← rr.length]; exact F.glen _ _ _ _ h)) rr h) fun res s' hq => ?_)
  match res, hq with
  | .error e, hq => exact hx pins σ H s e s' I hq
  | .ok (.ret u), hq => exact I.after hq
/-- .. called with its one parameter's name -/
structure HasK (P : Program) (w : World) (K : PySem.W.Frag) (mg : Str → Option Value) (base : Heap) (x : Str) (k : Nat) (p : Str) (sp : Sp) : Prop where
  ex : ∃ (a : Addr) (fd : FuncData), FnG P w K mg base CX0 k a fd [p] sp ∧ mg x = some (.ref a) ∧ PySem.W.keepIn K (.ref a) = true ∧ KBinds K fd [p] [p] (· ++ ·) (· ++ ·)
theorem Fun.kbinds1 {K : PySem.W.Frag} {x qual p : Str} {st : Stmt} {f : Addr} {fd : FuncData} (F : Fun K x qual st f fd)
    (h : ∀ (kV doc pm : Value) (an : Option Addr) (cdv ct : Value) (us ws : List Value), (us ++ ws).length = 1 → bindArgs (PySem.W.fnOf x qual (defArgs st) (defBody st) (defScope st) .none kV doc pm an cdv ct) ⟨us, [p].zip ws⟩ = pure ([p].zip (us ++ ws))) : KBinds K fd [p] [p] (· ++ ·) (· ++ ·) := by
  obtain ⟨oc, od, kV, doc, pm, an, cdv, ct, osl, rfl, lk, hcd⟩ := F.ex
  exact ⟨fun s us ws _ hl => .of_eq (h kV doc pm an cdv ct us ws hl), fun r1 r2 => r1.append r2⟩
section
variable {cl : String → Option Addr} {md : List Md} {X : Cx} {B : Bs} {ka : Kd}
theorem sk_callKH {rk : Kd} {f : List D → M D} {j k : Nat} {pn : Str} {x : Str} {p kpos pos : Pos} {e : Expr} {m : Env → M D}
    (h : HasK X.prog X.w X.K X.mg X.base x j pn (spF (gs X cl) [ka] rk f)) (hle : j ≤ k) (hgu : X.A.guards = some []) (hr : Room k X.A) (hg : Gl X x) (ha : SK cl md X ka e m) (hfr : ka ≠ .fre := by decide) (hdb : (x == ("__debug__" : Str)) = false := by decide)
    (hall : (backToKw pos (keywordEach [⟨some pn, e, kpos⟩] X.env)).all (·.1.isSome) = true := by rfl) (hks : (backToKw pos (keywordEach [⟨some pn, e, kpos⟩] X.env)).filterMap (·.1) = [pn] := by rfl)
    (hpl : ((backTo pos (starEach [] X.env)).any (·.1) || (backToKw pos (keywordEach [⟨some pn, e, kpos⟩] X.env)).any (·.1.isNone)) = false := by rfl) : SK cl md X rk (.Call (.Name x p) [] [⟨some pn, e, kpos⟩] pos) (eCallK f m) := by
  obtain ⟨a, fd, F, hm, hk, hb⟩ := h.ex
  refine ⟨fun pins s σ H Q I h => wpAny_Call_Name_kw (ld_glob I hg hm ?_ hdb)⟩
  refine PySem.W.callWith_KW0 (h₀ := X.base) I.ok.mod.kin hk hall (thn ((pk_cons ha pk_nil).run pos pins s σ H (fun zs H2 => spF (gs X cl) [ka] rk f zs H2 Q E0) I ?_) fun ws s2 ⟨zs, H2, I2, rz, q2⟩ => ⟨I2.kIn, ?_⟩) hpl
  · obtain ⟨ρ, μ, Fr, st, hE, hS, w⟩ := h
    refine ⟨ρ, μ, Fr, st, hE, hS, ?_⟩
    rw [M.gives_bind] at w
    refine M.gives_mono w fun d st1 w1 v μ1 F1 H1 p1 s1 r1 => ?_
    refine ⟨μ1, F1, [d], st1, s1, rfl, rfl, fun i k' d' v' e1 e2 e3 => ?_, M.gives_mono w1 fun d st2 w2 => w2.after p1⟩
    cases i with
    | succ i => simp at e1
    | zero =>
      simp only [List.getElem?_cons_zero, Option.some.injEq] at e1 e2 e3
      subst e1 e2 e3
      cases ka with
      | val => exact r1
      | bor => exact r1
      | fre => exact absurd rfl hfr
  · rw [hks]
    exact run_fnkG (us := []) (vs := []) (F.up hle) hgu hr hb pass0 I2 .nil rz q2
/-- y = [e ..], the list is one of the store -/
theorem ss_setLcSto (i : Nat) {y : Str} {py : Pos} {elt tg iter : Expr} {ifs : List Expr} {scope : Scope} {pos spos : Pos} {own : List (Str × Nat)} {ns : List Nat} {mw : Env → M (List D)} {g : D → Env → Option Env} {t : Env → M Bool} {e : Env → M D} (hc : X.calm = true) (hN : X.N.Nodup)
    (ok : blkC X.N X.env.scope scope own = true) (hv : ∀ i ∈ ns, i ∈ own.map (·.2)) (hi : SI cl md X tg iter mw) (hg : Blk X scope fun Y => SG cl md Y ns tg g) (ht : Blk X scope fun Y => PTs Y ifs (tKB (gs X cl) md t)) (he : Blk X scope fun Y => SK cl md Y .val elt e)
    (hy : X.N[i]? = some y := by rfl) (hyl : X.env.scope.names.lookup y = some .local := by rfl) (hm : md[i]? = some .val := by rfl)
    (hsw : swapsWith (.ListComp elt [⟨tg, iter, ifs, 0⟩] scope pos) (some (.Name y py)) spos.line X.env = pure true := by exact sw_true rfl rfl rfl (by decide +kernel))
    (hs : ∀ x, foldedSetIterable iter X.env x = pure x := by intro _; rfl) : SS cl md B X (.Assign [.Name y py] (.ListComp elt [⟨tg, iter, ifs, 0⟩] scope pos) spos) (setS i (eSto (eComp (own.map (·.2)) mw g t e))) :=
  PS.mono (ps_setLc (g := tG (gs X cl) md ns g) (tt := tKB (gs X cl) md t) (te := tK (gs X cl) md .val e) hc hN hy hyl hsw hi (blkOk_by ok) (fun s H C cc fp => hg s H C cc fp) (fun s H C cc fp => ht s H C cc fp) (fun s H C cc fp => he s H C cc fp) hs) fun D σ H ⟨ρ, μ, F, st, s, w⟩ => by
  refine comp_read (elt := elt) (tg := tg) (iter := iter) hv ⟨ρ, μ, F, st, s.env, s.sto, ?_⟩
  unfold setS at w
  rw [M.gives_bind, M.gives_bind] at w
  refine M.gives_mono w fun d st1 w1 v μ1 F1 H1 p1 s1 r1 => ?_
  obtain ⟨a, rfl, p2, s2, r2⟩ := to_store p1 s1 r1
  exact w1 _ _ _ _ ((s.step p2 s2).setV hm r2) p2.subF p2.mu
end
theorem fnG_bad {P : Program} {w : World} {K : PySem.W.Frag} {mg : Str → Option Value} {base : Heap} {k : Nat} {f : Addr} {fd : FuncData} {ps : List Str} {G : Gs} {pk : List Kd} {rk : Kd} : FnG P w K mg base CX0 k f fd ps (spF G pk rk fun _ => M.bad) :=
  ⟨fun vs H Q E h => (by obtain ⟨_, _, _, _, _, _, _, _, h⟩ := h; exact h.elim), fun A o s H ar us vs Q E _ _ _ _ _ h => (by obtain ⟨_, _, _, _, _, _, _, _, h⟩ := h; exact h.elim)⟩
end Sh
namespace Sh
open PySem PySem.Spec PyProof.Rows L2
/-! ### plain reasoning about mirrors -/
theorem gv_pure {α : Type} {a : α} {st : Sto} {P : α → Sto → Prop} : (Pure.pure a : M α).gives st P ↔ P a st := Iff.rfl
theorem gv_bind {α β : Type} {m : M α} {f : α → M β} {st : Sto} {P : β → Sto → Prop} : (m >>= f).gives st P ↔ m.gives st fun a st' => (f a).gives st' P := by rw [M.gives_bind]
theorem gv_ite {α : Type} {c : Prop} [Decidable c] {a b : M α} {st : Sto} {P : α → Sto → Prop} : (if c then a else b).gives st P ↔ (c → a.gives st P) ∧ (¬ c → b.gives st P) := by
  by_cases h : c <;> simp [h]
theorem gv_guard {α : Type} {c : Prop} [Decidable c] {a : M α} {st : Sto} {P : α → Sto → Prop} : (if c then a else M.bad).gives st P ↔ c ∧ a.gives st P := by
  by_cases h : c
  · simp [h]
  · simp [h, M.gives_bad]
theorem gv_cond {α : Type} {b : Bool} {x y : M α} {st : Sto} {P : α → Sto → Prop} : (if b = true then x else y).gives st P ↔ (b = true → x.gives st P) ∧ (b = false → y.gives st P) := by
  cases b <;> simp
theorem gv_ifS {c : Sh.Env → M Bool} {x y : MS} {ρ : Sh.Env} {st : Sto} {P : Fl × Sh.Env → Sto → Prop} : (ifS c x y ρ).gives st P ↔ (c ρ).gives st fun t st' => (t = true → (x ρ).gives st' P) ∧ (t = false → (y ρ).gives st' P) := by
  unfold ifS
  rw [M.gives_bind]
  simp only [gv_cond]
theorem gv_eIf {c : Sh.Env → M Bool} {x y : Sh.Env → M D} {ρ : Sh.Env} {st : Sto} {P : D → Sto → Prop} : (eIf c x y ρ).gives st P ↔ (c ρ).gives st fun t st' => (t = true → (x ρ).gives st' P) ∧ (t = false → (y ρ).gives st' P) := by
  show M.gives (c ρ >>= _) st P ↔ _
  rw [M.gives_bind]
  simp only [gv_cond]
theorem gv_orB {m n : Sh.Env → M Bool} {ρ : Sh.Env} {st : Sto} {P : Bool → Sto → Prop} : (orB m n ρ).gives st P ↔ (m ρ).gives st fun b st' => (b = true → P true st') ∧ (b = false → (n ρ).gives st' P) := by
  unfold orB
  rw [M.gives_bind]
  simp only [gv_cond, gv_pure]
theorem gv_andB {m n : Sh.Env → M Bool} {ρ : Sh.Env} {st : Sto} {P : Bool → Sto → Prop} : (andB m n ρ).gives st P ↔ (m ρ).gives st fun b st' => (b = true → (n ρ).gives st' P) ∧ (b = false → P false st') := by
  unfold andB
  rw [M.gives_bind]
  simp only [gv_cond, gv_pure]
theorem gv_seq {m n : MS} {ρ : Sh.Env} {st : Sto} {P : Fl × Sh.Env → Sto → Prop} : (seqS m n ρ).gives st P ↔ (m ρ).gives st fun r st' => (match r.1 with | .nx => n r.2 | _ => pure r : M (Fl × Env)).gives st' P := by
  unfold seqS
  (rw [M.gives_bind]) <;> exact Iff.rfl
theorem gv_nx {n : MS} {ρ : Env} {st : Sto} {P : Fl × Env → Sto → Prop} : (match (Fl.nx, ρ).1 with | .nx => n (Fl.nx, ρ).2 | _ => pure (Fl.nx, ρ) : M (Fl × Env)).gives st P ↔ (n ρ).gives st P := Iff.rfl
theorem dget_eq {k d : D} {q : Key} {r : List (D × D)} (h : k.key? = some q) : dgetK ((k, d) :: r) q = some d := by
  unfold dgetK
  rw [List.find?_cons]
  simp [h]
theorem dget_ne {k d : D} {q : Key} {r : List (D × D)} (h : ¬ k.key? = some q) : dgetK ((k, d) :: r) q = dgetK r q := by
  unfold dgetK
  rw [List.find?_cons]
  simp [h]

/-! ### the draws: a law's drawing is the same text everywhere -/
abbrev kW : Str := "wide"
abbrev kC : Str := "cells"
abbrev kR : Str := "rest"
abbrev kT : Str := "turn"
def drw (cs : List D) (r t : Int) : List (D × D) := [(.str kW, .ref 0), (.str kC, .lst cs), (.str kR, .int r), (.str kT, .int t)]
theorem n_wr : kW ≠ kR := by decide +kernel
theorem n_wc : kW ≠ kC := by decide +kernel
theorem n_wt : kW ≠ kT := by decide +kernel
theorem n_cr : kC ≠ kR := by decide +kernel
theorem n_ct : kC ≠ kT := by decide +kernel
theorem n_rt : kR ≠ kT := by decide +kernel
theorem sk_ne {a b : Str} (h : a ≠ b) : ¬ (D.str a).key? = some (.inr b) := fun e => h (by cases e; rfl)
section
variable {cs : List D} {r t : Int}
theorem drw_w : dgetK (drw cs r t) (.inr kW) = some (.ref 0) := dget_eq rfl
theorem drw_c : dgetK (drw cs r t) (.inr kC) = some (.lst cs) := by
  unfold drw
  rw [dget_ne (sk_ne n_wc), dget_eq rfl]
theorem drw_r : dgetK (drw cs r t) (.inr kR) = some (.int r) := by
  unfold drw
  rw [dget_ne (sk_ne n_wr), dget_ne (sk_ne n_cr), dget_eq rfl]
theorem drw_t : dgetK (drw cs r t) (.inr kT) = some (.int t) := by
  unfold drw
  rw [dget_ne (sk_ne n_wt), dget_ne (sk_ne n_ct), dget_ne (sk_ne n_rt), dget_eq rfl]
theorem put_r {x : Int} : dputK (drw cs r t) (.inr kR) (.str kR) (.int x) = drw cs x t := by
  unfold drw dputK
  have h1 := sk_ne n_wr
  have h2 := sk_ne n_cr
  have h3 : ¬ (D.str kT).key? = some (.inr kR) := sk_ne (Ne.symm n_rt)
  have h0 : (D.str kR).key? = some (.inr kR) := rfl
  simp only [List.any_cons, List.any_nil, List.map_cons, List.map_nil, h0, h1, h2, h3, if_true, if_false, decide_true, decide_false, Bool.or_true, Bool.true_or]
theorem put_t {x : Int} : dputK (drw cs r t) (.inr kT) (.str kT) (.int x) = drw cs r x := by
  unfold drw dputK
  have h1 := sk_ne n_wt
  have h2 := sk_ne n_ct
  have h3 := sk_ne n_rt
  have h0 : (D.str kT).key? = some (.inr kT) := rfl
  simp only [List.any_cons, List.any_nil, List.map_cons, List.map_nil, h0, h1, h2, h3, if_true, if_false, decide_true, decide_false, Bool.or_true, Bool.true_or, Bool.false_or]
/-- the state of a drawing; R: what else was laid -/
def dst (ws : List Int) (cs : List D) (r t : Int) (R : Sto) : Sto := .lst (ws.map .int) :: .dic (drw cs r t) :: R
variable {ws : List Int} {R : Sto}
theorem ix_w {P : D → Sto → Prop} : (ixD (.ref 1) (.str kW)).gives (dst ws cs r t R) P ↔ P (.ref 0) (dst ws cs r t R) := by
  show (ofO (dgetK (drw cs r t) (.inr kW))).gives _ _ ↔ _
  rw [drw_w]; exact Iff.rfl
theorem ix_c {P : D → Sto → Prop} : (ixD (.ref 1) (.str kC)).gives (dst ws cs r t R) P ↔ P (.lst cs) (dst ws cs r t R) := by
  show (ofO (dgetK (drw cs r t) (.inr kC))).gives _ _ ↔ _
  rw [drw_c]; exact Iff.rfl
theorem ix_r {P : D → Sto → Prop} : (ixD (.ref 1) (.str kR)).gives (dst ws cs r t R) P ↔ P (.int r) (dst ws cs r t R) := by
  show (ofO (dgetK (drw cs r t) (.inr kR))).gives _ _ ↔ _
  rw [drw_r]; exact Iff.rfl
theorem ix_t {P : D → Sto → Prop} : (ixD (.ref 1) (.str kT)).gives (dst ws cs r t R) P ↔ P (.int t) (dst ws cs r t R) := by
  show (ofO (dgetK (drw cs r t) (.inr kT))).gives _ _ ↔ _
  rw [drw_t]; exact Iff.rfl
theorem pr_r {x : Int} {P : Unit → Sto → Prop} : (putRef (.ref 1) (.str kR) (.int x)).gives (dst ws cs r t R) P ↔ P () (dst ws cs x t R) := by
  have e : putRef (.ref 1) (.str kR) (.int x) (dst ws cs r t R) = .ok () (dst ws cs x t R) := by
    show (match (if (drw cs r t).length < 16777216 then some (D.dic (dputK (drw cs r t) (.inr kR) (.str kR) (.int x))) else none) with
      | some c' => Res.ok () ((dst ws cs r t R).set 1 c')
      | none => Res.bad) = _
    rw [if_pos (by simp [drw]), put_r]
    rfl
  rw [M.gives_ok e]
theorem pr_t {x : Int} {P : Unit → Sto → Prop} : (putRef (.ref 1) (.str kT) (.int x)).gives (dst ws cs r t R) P ↔ P () (dst ws cs r x R) := by
  have e : putRef (.ref 1) (.str kT) (.int x) (dst ws cs r t R) = .ok () (dst ws cs r x R) := by
    show (match (if (drw cs r t).length < 16777216 then some (D.dic (dputK (drw cs r t) (.inr kT) (.str kT) (.int x))) else none) with
      | some c' => Res.ok () ((dst ws cs r t R).set 1 c')
      | none => Res.bad) = _
    rw [if_pos (by simp [drw]), put_t]
    rfl
  rw [M.gives_ok e]
theorem pop_w {w : Int} {P : D → Sto → Prop} : (popRef (.ref 0) (.int 0)).gives (dst (w :: ws) cs r t R) P ↔ P (.int w) (dst ws cs r t R) := by
  have e : popRef (.ref 0) (.int 0) (dst (w :: ws) cs r t R) = .ok (.int w) (dst ws cs r t R) := by
    show (match (match seqIndex? 0 (((w :: ws).map D.int)).length with
      | some j => ((((w :: ws).map D.int))[j]?).map fun y => (y, D.lst ((((w :: ws).map D.int)).eraseIdx j))
      | none => none) with
      | some (y, c') => Res.ok y ((dst (w :: ws) cs r t R).set 0 c')
      | none => Res.bad) = _
    have h : seqIndex? 0 (((w :: ws).map D.int)).length = some 0 := by
      unfold seqIndex?
      simp
    rw [h]
    rfl
  rw [M.gives_ok e]
end
theorem need_w {ws : List Int} {cs : List D} {r t : Int} {R : Sto} {P : Unit → Sto → Prop} : (needLst (.ref 0)).gives (dst ws cs r t R) P ↔ P () (dst ws cs r t R) := Iff.rfl
theorem pyL_ints : ∀ ws : List Int, pyL (ws.map .int) = some (ws.map .int)
  | [] => rfl
  | w :: ws => by
    rw [List.map_cons]
    unfold pyL
    rw [pyL_ints ws]
    rfl
theorem ne_w {ws : List Int} {cs : List D} {r t : Int} {R : Sto} {P : D → Sto → Prop} : (neD (.ref 0) (.lst [])).gives (dst ws cs r t R) P ↔ P (.bl (!ws.isEmpty)) (dst ws cs r t R) := by
  show (optB not (eqB (.lst (ws.map .int)) (.lst []))).gives (dst ws cs r t R) P ↔ _
  have h : eqB (.lst (ws.map .int)) (.lst []) = some ws.isEmpty := by
    unfold eqB
    have e1 : (D.lst (ws.map .int)).py = some (.list (ws.map .int)) := by
      unfold D.py
      rw [pyL_ints]
    have e2 : (D.lst []).py = some (.list []) := rfl
    rw [e1, e2]
    simp only
    rw [if_pos (by simp only [PyData.depth, PyData.depthAll]; omega)]
    cases ws <;> rfl
  rw [h]
  exact Iff.rfl
theorem lenV_lst {ds : List D} {st : Sto} {P : D → Sto → Prop} : (lenD (.lst ds)).gives st P ↔ P (.int ds.length) st := Iff.rfl
theorem lenV_frl {ds : List D} {st : Sto} {P : D → Sto → Prop} : (lenD (.frl ds)).gives st P ↔ P (.int ds.length) st := Iff.rfl
theorem lenV_tup {ds : List D} {st : Sto} {P : D → Sto → Prop} : (lenD (.tup ds)).gives st P ↔ P (.int ds.length) st := Iff.rfl
theorem lenV_str {s : Str} {st : Sto} {P : D → Sto → Prop} : (lenD (.str s)).gives st P ↔ P (.int s.length) st := Iff.rfl
theorem pyL_strs : ∀ ss : List Str, pyL (ss.map .str) = some (ss.map .str)
  | [] => rfl
  | w :: ws => by
    rw [List.map_cons]
    unfold pyL
    rw [pyL_strs ws]
    rfl
theorem depth_strs : ∀ ss : List Str, PyData.depthAll (ss.map .str) = 0
  | [] => rfl
  | w :: ws => by
    show max 0 (PyData.depthAll (ws.map .str)) = 0
    rw [depth_strs ws]
    rfl
theorem inSeq_strs {x : Str} {ss : List Str} : inSeq (.str x) (ss.map .str) = some (decide (x ∈ ss)) := by
  unfold inSeq
  rw [pyL_strs]
  show (if min (PyData.depthAll (ss.map .str)) (PyData.str x).depth ≤ 64 then some ((ss.map PyData.str).any fun z => PyData.eqv z (.str x)) else none) = _
  rw [depth_strs, if_pos (by simp)]
  congr 1
  induction ss with
  | nil => rfl
  | cons y ss ih =>
    rw [List.map_cons, List.any_cons, ih]
    show ((y == x) || decide (x ∈ ss)) = _
    by_cases h : y = x
    · subst h; simp
    · have h2 : ¬ x = y := fun e => h e.symm
      simp [h, h2]
theorem notIn_strs {x : Str} {ss : List Str} {st : Sto} {P : D → Sto → Prop} : (notInD (.str x) (.lst (ss.map .str))).gives st P ↔ P (.bl (!decide (x ∈ ss))) st := by
  show (optB not (inSeq (.str x) (ss.map .str))).gives st P ↔ _
  rw [inSeq_strs]
  exact Iff.rfl
theorem strsOf_map : ∀ ss : List Str, strsOf (ss.map .str) = some ss
  | [] => rfl
  | w :: ws => by
    rw [List.map_cons]
    unfold strsOf
    rw [strsOf_map ws]
theorem sorted_strs {ss : List Str} {st : Sto} {P : D → Sto → Prop} (h : ss.length < 64) : (sortedD (.lst (ss.map .str))).gives st P ↔ P (.lst ((sortS ss).map .str)) st := by
  show (match strsOf (ss.map .str) with | some bs => if bs.length < 64 then pure (D.lst ((sortS bs).map .str)) else M.bad | none => M.bad : M D).gives st P ↔ _
  rw [strsOf_map]
  simp only [if_pos h]
  exact Iff.rfl
theorem sorted_dic {kvs : List (D × D)} {ss : List Str} {st : Sto} {P : D → Sto → Prop} (e : keysOf kvs = ss.map .str) (h : ss.length < 64) : (sortedD (.dic kvs)).gives st P ↔ P (.lst ((sortS ss).map .str)) st := by
  show (match strsOf (keysOf kvs) with | some bs => if bs.length < 64 then pure (D.lst ((sortS bs).map .str)) else M.bad | none => M.bad : M D).gives st P ↔ _
  rw [e, strsOf_map]
  simp only [if_pos h]
  exact Iff.rfl
theorem mem_sortS {x : Str} {ss : List Str} : x ∈ sortS ss ↔ x ∈ ss := List.mem_mergeSort
theorem len_sortS {ss : List Str} : (sortS ss).length = ss.length := List.length_mergeSort _
/-- a comprehension that keeps what is not in ss -/
theorem comp_notIn {i : Nat} {m : Sh.Env → M Bool} {ss : List Str} {ρ : Sh.Env} (ht : ∀ (x : Str) (ρ' : Sh.Env) (st : Sto), setV i (.str x) ρ = some ρ' → m ρ' st = .ok (!decide (x ∈ ss)) st) (he : ∀ (x : D) (ρ' : Sh.Env), setV i x ρ = some ρ' → getV ρ' i = (pure x : M D)) :
    ∀ (xs : List Str) (st : Sto), compD (setV i) m (eV i) ρ (xs.map .str) st = .ok ((xs.filter fun x => !decide (x ∈ ss)).map .str) st
  | [], st => rfl
  | x :: xs, st => by
    rw [List.map_cons]
    unfold compD
    show (M.bind (m (ρ.set i (some (.str x)))) _) st = _
    unfold M.bind
    rw [ht x _ st rfl]
    have ih := comp_notIn ht he xs st
    by_cases h : x ∈ ss
    · simp only [h, decide_true, Bool.not_true, List.filter_cons, Bool.false_eq_true, if_false]
      exact ih
    · simp only [h, decide_false, Bool.not_false, List.filter_cons, if_true, List.map_cons]
      show (M.bind (getV (ρ.set i (some (.str x))) i) _) st = _
      rw [he (.str x) _ rfl]
      show (M.bind (compD (setV i) m (eV i) ρ (xs.map .str)) _) st = _
      unfold M.bind
      rw [ih]
      rfl
/-- whole numbers are compared -/
theorem eq_ii {i j : Int} {st : Sto} {P : D → Sto → Prop} : (eqD (.int i) (.int j)).gives st P ↔ P (.bl (i == j)) st := Iff.rfl
theorem ne_ii {i j : Int} {st : Sto} {P : D → Sto → Prop} : (neD (.int i) (.int j)).gives st P ↔ P (.bl (!(i == j))) st := Iff.rfl
end Sh
namespace Sh
open PySem PySem.Spec PyProof.Rows L2
/-! ### what is shown is a text of fitting length -/
theorem ok_iff {s : Str} : PyData.strOk s = true ↔ ∀ c ∈ s.cps.toList, c < 0x110000 := by
  unfold PyData.strOk
  rw [Array.all_eq_true_iff_forall_mem]
  constructor
  · intro h c hc
    simpa using h c (Array.mem_toList_iff.mp hc)
  · intro h c hc
    simpa using h c (Array.mem_toList_iff.mpr hc)
theorem cps_app (a b : Str) : (a ++ b).cps.toList = a.cps.toList ++ b.cps.toList := by
  show (a.cps ++ b.cps).toList = _
  simp
theorem ok_app {a b : Str} (h1 : PyData.strOk a = true) (h2 : PyData.strOk b = true) : PyData.strOk (a ++ b) = true := by
  rw [ok_iff] at h1 h2 ⊢
  intro c hc
  rw [cps_app] at hc
  exact (List.mem_append.mp hc).elim (h1 c) (h2 c)
theorem ok_join {sep : Str} (hs : PyData.strOk sep = true) : ∀ {ts : List Str}, (∀ t ∈ ts, PyData.strOk t = true) → PyData.strOk (Str.join sep ts) = true
  | [], _ => by rw [ok_iff]; intro c hc; simp [Str.join, Str.empty] at hc
  | [x], h => h x List.mem_cons_self
  | x :: y :: r, h => ok_app (ok_app (h x List.mem_cons_self) hs) (ok_join hs fun t ht => h t (List.mem_cons_of_mem _ ht))
theorem ok_from : ∀ (ts : List Str) (k : Nat) (acc : Str), PyData.strOk acc = true → (∀ t ∈ ts, PyData.strOk t = true) → PyData.strOk (textFrom k acc ts) = true
  | [], _, _, h, _ => h
  | t :: r, k, acc, h, hr => by
    refine ok_from r (k + 1) _ (ok_app (ok_app h ?_) (hr t List.mem_cons_self)) fun x hx => hr x (List.mem_cons_of_mem _ hx)
    split <;> decide +kernel
theorem digit_ok {n : Nat} {d : Char} (hb : 1 < 17) (h : d ∈ Nat.toDigits 16 n) : d.toNat < 0x110000 := by
  have := d.valid
  have h2 : d.val.toNat < 0x110000 := by
    rcases this with h | ⟨_, h⟩
    · have : d.val.toNat < 0xd800 := h
      omega
    · exact h
  exact h2
theorem rc_ok {q c : Nat} (hq : q < 0x110000) (hc : c < 0x110000) : ∀ x ∈ Builtin.Str.reprChar q c, x < 0x110000 := by
  have hex : ∀ w x, x ∈ List.replicate (w - ((Nat.toDigits 16 c).map Char.toNat).length) 48 ++ (Nat.toDigits 16 c).map Char.toNat → x < 0x110000 := fun w x hx => by
    rcases List.mem_append.mp hx with hx | hx
    · rw [(List.mem_replicate.mp hx).2]; decide
    · obtain ⟨d, hd, rfl⟩ := List.mem_map.mp hx
      exact digit_ok (by decide) hd
  unfold Builtin.Str.reprChar
  intro x hx
  simp only at hx
  split at hx
  · simp only [List.mem_cons, List.not_mem_nil, or_false] at hx
    rcases hx with rfl | rfl
    · decide
    · exact hc
  · split at hx
    · simp only [List.mem_cons, List.not_mem_nil, or_false] at hx
      rcases hx with rfl | rfl <;> decide
    · split at hx
      · simp only [List.mem_cons, List.not_mem_nil, or_false] at hx
        rcases hx with rfl | rfl <;> decide
      · split at hx
        · simp only [List.mem_cons, List.not_mem_nil, or_false] at hx
          rcases hx with rfl | rfl <;> decide
        · split at hx
          · simp only [List.mem_cons, List.not_mem_nil, or_false] at hx
            rw [hx]; exact hc
          · split at hx
            · simp only [List.cons_append, List.nil_append, List.mem_cons] at hx
              rcases hx with rfl | rfl | hx
              · decide
              · decide
              · exact hex 2 x hx
            · split at hx
              · simp only [List.cons_append, List.nil_append, List.mem_cons] at hx
                rcases hx with rfl | rfl | hx
                · decide
                · decide
                · exact hex 4 x hx
              · simp only [List.cons_append, List.nil_append, List.mem_cons] at hx
                rcases hx with rfl | rfl | hx
                · decide
                · decide
                · exact hex 8 x hx
theorem rt_ok {s : Str} (h : PyData.strOk s = true) : PyData.strOk (reprText s) = true := by
  rw [ok_iff] at h ⊢
  have hq : reprQuote s < 0x110000 := by unfold reprQuote; split <;> decide
  have fold : ∀ (l : List Nat) (acc : Array Nat), (∀ c ∈ l, c < 0x110000) → (∀ c ∈ acc.toList, c < 0x110000) → ∀ c ∈ (l.foldl (fun out c => out ++ (Builtin.Str.reprChar (reprQuote s) c).toArray) acc).toList, c < 0x110000 := by
    intro l
    induction l with
    | nil => intro acc _ ha; exact ha
    | cons x l ih =>
      intro acc hl ha
      refine ih _ (fun c hc => hl c (List.mem_cons_of_mem _ hc)) fun c hc => ?_
      rw [Array.toList_append] at hc
      rcases List.mem_append.mp hc with hc | hc
      · exact ha c hc
      · exact rc_ok hq (hl x List.mem_cons_self) c (by simpa using hc)
  intro c hc
  unfold reprText at hc
  rw [Array.toList_push] at hc
  rcases List.mem_append.mp hc with hc | hc
  · rw [← Array.foldl_toList] at hc
    exact fold _ _ h (fun c hc => by simp at hc; rw [hc]; exact hq) c hc
  · simp at hc; rw [hc]; exact hq
mutual
def pok : PyData → Bool
  | .none | .bool _ => true
  | .int i => PyData.strOk (PyData.shown (.int i))
  | .str s => PyData.strOk s
  | .list xs | .tuple xs => pokL xs
  | .dict kvs => pokK kvs
def pokL : List PyData → Bool
  | [] => true
  | x :: xs => pok x && pokL xs
def pokK : List (PyData × PyData) → Bool
  | [] => true
  | (k, v) :: r => pok k && pok v && pokK r
end
mutual
theorem sh_ok : ∀ p : PyData, pok p = true → PyData.strOk p.shown = true
  | .none, _ => by decide +kernel
  | .bool b, _ => by cases b <;> decide +kernel
  | .int i, h => h
  | .str s, h => rt_ok h
  | .list xs, h => by
    have h : pokL xs = true := h
    show PyData.strOk (textFrom 0 "[" (PyData.shownAll xs) ++ "]") = true
    exact ok_app (ok_from _ _ _ (by decide +kernel) (shA_ok xs h)) (by decide +kernel)
  | .tuple xs, h => by
    have h : pokL xs = true := h
    show PyData.strOk (("(" : Str) ++ Str.join ", " (PyData.shownAll xs) ++ (if (PyData.shownAll xs).length == 1 then ",)" else ")" : String)) = true
    refine ok_app (ok_app (by decide +kernel) (ok_join (by decide +kernel) (shA_ok xs h))) ?_
    split <;> decide +kernel
  | .dict kvs, h => by
    have h : pokK kvs = true := h
    show PyData.strOk (("{" : Str) ++ Str.join ", " (PyData.shownKv kvs) ++ "}") = true
    exact ok_app (ok_app (by decide +kernel) (ok_join (by decide +kernel) (shK_ok kvs h))) (by decide +kernel)
theorem shA_ok : ∀ xs : List PyData, pokL xs = true → ∀ t ∈ PyData.shownAll xs, PyData.strOk t = true
  | [], _ => by simp [PyData.shownAll]
  | x :: xs, h => by
    unfold pokL at h
    simp only [Bool.and_eq_true] at h
    intro t ht
    unfold PyData.shownAll at ht
    rcases List.mem_cons.mp ht with e | ht
    · rw [e]; exact sh_ok x h.1
    · exact shA_ok xs h.2 t ht
theorem shK_ok : ∀ kvs : List (PyData × PyData), pokK kvs = true → ∀ t ∈ PyData.shownKv kvs, PyData.strOk t = true
  | [], _ => by simp [PyData.shownKv]
  | (k, v) :: r, h => by
    unfold pokK at h
    simp only [Bool.and_eq_true] at h
    intro t ht
    unfold PyData.shownKv at ht
    rcases List.mem_cons.mp ht with e | ht
    · rw [e]; exact ok_app (ok_app (sh_ok k h.1.1) (by decide +kernel)) (sh_ok v h.1.2)
    · exact shK_ok r h.2 t ht
end
/-! ### data that are shown, by the mirror's own -/
def intG (i : Int) : Bool := decide ((PyData.shown (.int i)).length ≤ 60) && decide (i.natAbs.log2 < 1920) && PyData.strOk (PyData.shown (.int i))
mutual
def D.g : D → Bool
  | .non => true
  | .bl _ => true
  | .int i => intG i
  | .str s => okS s
  | .lst ds => gL ds
  | .tup ds => gL ds
  | .dic kvs => gK kvs
  | .obj _ _ => false
  | .dit _ => false
  | .ref _ => false
  | .frl _ => false
def gL : List D → Bool
  | [] => true
  | d :: ds => d.g && gL ds
def gK : List (D × D) → Bool
  | [] => true
  | (k, d) :: r => k.key?.isSome && k.g && d.g && gK r
end
mutual
/-- how much is shown -/
def D.bk : D → Nat
  | .str s => s.length
  | .lst ds => bkL ds
  | .tup ds => bkL ds
  | .dic kvs => bkK kvs
  | _ => 0
def bkL : List D → Nat
  | [] => 0
  | d :: ds => d.bk + 1 + bkL ds
def bkK : List (D × D) → Nat
  | [] => 0
  | (k, d) :: r => k.bk + d.bk + 2 + bkK r
end
mutual
/-- how deep -/
def D.dp : D → Nat
  | .lst ds => dpL ds + 1
  | .tup ds => dpL ds + 1
  | .dic kvs => dpK kvs + 1
  | _ => 0
def dpL : List D → Nat
  | [] => 0
  | d :: ds => max d.dp (dpL ds)
def dpK : List (D × D) → Nat
  | [] => 0
  | (k, d) :: r => max (max k.dp d.dp) (dpK r)
end
/-- p shows what is told of d -/
structure Shw (d : D) (p : PyData) : Prop where
  shows : p.showable = true
  short : p.leavesShort 60 = true
  oks : pok p = true
  bulk : p.bulk = d.bk
  deep : p.depth = d.dp
structure ShwL (ds : List D) (ps : List PyData) : Prop where
  shows : PyData.showableAll ps = true
  short : PyData.leavesShortAll 60 ps = true
  oks : pokL ps = true
  bulk : PyData.bulkAll ps = bkL ds
  deep : PyData.depthAll ps = dpL ds
structure ShwK (ds : List (D × D)) (ps : List (PyData × PyData)) : Prop where
  shows : PyData.showableKv ps = true
  short : PyData.leavesShortKv 60 ps = true
  oks : pokK ps = true
  bulk : PyData.bulkKv ps = bkK ds
  deep : PyData.depthKv ps = dpK ds
theorem short_str {s : Str} (h : okS s = true) : (PyData.str s).leavesShort 60 = true := by
  show (s.cps.toList.all fun c => decide (c < 16 ^ 8)) = true
  rw [List.all_eq_true]
  intro c hc
  have := ok_iff.mp (okS_ok h) c hc
  exact decide_eq_true (by omega)
theorem key_shw {k : D} (h : k.key?.isSome = true) (hg : k.g = true) : ∃ p, keyPy k = some p ∧ Shw k p := by
  cases k <;> try (cases h; done)
  · rename_i i
    have hg : intG i = true := hg
    unfold intG at hg
    simp only [Bool.and_eq_true, decide_eq_true_eq] at hg
    exact ⟨_, rfl, by simp [PyData.showable, hg], by simp [PyData.leavesShort, hg], hg.2, rfl, rfl⟩
  · exact ⟨_, rfl, rfl, short_str hg, okS_ok hg, rfl, rfl⟩
mutual
theorem g_shw : ∀ d : D, d.g = true → ∃ p, d.pyR = some p ∧ Shw d p
  | .non, _ => ⟨_, rfl, rfl, rfl, rfl, rfl, rfl⟩
  | .bl b, _ => ⟨_, rfl, rfl, rfl, rfl, rfl, rfl⟩
  | .int i, hg => by
    have hg : intG i = true := hg
    unfold intG at hg
    simp only [Bool.and_eq_true, decide_eq_true_eq] at hg
    exact ⟨_, rfl, by simp [PyData.showable, hg], by simp [PyData.leavesShort, hg], hg.2, rfl, rfl⟩
  | .str s, hg => ⟨_, rfl, rfl, short_str hg, okS_ok hg, rfl, rfl⟩
  | .lst ds, hg => by
    obtain ⟨ps, e, w⟩ := gL_shw ds hg
    refine ⟨.list ps, by unfold D.pyR; rw [e], w.shows, w.short, w.oks, w.bulk, ?_⟩
    show PyData.depthAll ps + 1 = dpL ds + 1
    rw [w.deep]
  | .tup ds, hg => by
    obtain ⟨ps, e, w⟩ := gL_shw ds hg
    refine ⟨.tuple ps, by unfold D.pyR; rw [e], w.shows, w.short, w.oks, w.bulk, ?_⟩
    show PyData.depthAll ps + 1 = dpL ds + 1
    rw [w.deep]
  | .dic kvs, hg => by
    obtain ⟨ps, e, w⟩ := gK_shw kvs hg
    refine ⟨.dict ps, by unfold D.pyR; rw [e], w.shows, w.short, w.oks, w.bulk, ?_⟩
    show PyData.depthKv ps + 1 = dpK kvs + 1
    rw [w.deep]
  | .obj _ _, h => by cases h
  | .dit _, h => by cases h
  | .ref _, h => by cases h
  | .frl _, h => by cases h
theorem gL_shw : ∀ ds : List D, gL ds = true → ∃ ps, pyRL ds = some ps ∧ ShwL ds ps
  | [], _ => ⟨[], rfl, rfl, rfl, rfl, rfl, rfl⟩
  | d :: ds, h => by
    unfold gL at h
    simp only [Bool.and_eq_true] at h
    obtain ⟨p, e1, w1⟩ := g_shw d h.1
    obtain ⟨ps, e2, w2⟩ := gL_shw ds h.2
    refine ⟨p :: ps, by unfold pyRL; rw [e1, e2], ?_, ?_, ?_, ?_, ?_⟩
    · simp [PyData.showableAll, w1.shows, w2.shows]
    · simp [PyData.leavesShortAll, w1.short, w2.short]
    · simp [pokL, w1.oks, w2.oks]
    · simp [PyData.bulkAll, bkL, w1.bulk, w2.bulk]
    · simp [PyData.depthAll, dpL, w1.deep, w2.deep]
theorem gK_shw : ∀ ds : List (D × D), gK ds = true → ∃ ps, pyRK ds = some ps ∧ ShwK ds ps
  | [], _ => ⟨[], rfl, rfl, rfl, rfl, rfl, rfl⟩
  | (k, d) :: ds, h => by
    unfold gK at h
    simp only [Bool.and_eq_true] at h
    obtain ⟨q, e0, w0⟩ := key_shw h.1.1.1 h.1.1.2
    obtain ⟨p, e1, w1⟩ := g_shw d h.1.2
    obtain ⟨ps, e2, w2⟩ := gK_shw ds h.2
    refine ⟨(q, p) :: ps, by unfold pyRK; rw [e0, e1, e2], ?_, ?_, ?_, ?_, ?_⟩
    · simp [PyData.showableKv, w0.shows, w1.shows, w2.shows]
    · simp [PyData.leavesShortKv, w0.short, w1.short, w2.short]
    · simp [pokK, w0.oks, w1.oks, w2.oks]
    · simp [PyData.bulkKv, bkK, w0.bulk, w1.bulk, w2.bulk]
    · simp [PyData.depthKv, dpK, w0.deep, w1.deep, w2.deep]
end
/-- what d shows, told where d is good and not too big -/
theorem repr_g {d : D} (hg : d.g = true) (hb : d.bk ≤ 200000) (hd : d.dp ≤ 150) : ∃ s : Str, okS s = true ∧ ∀ (st : Sto) (P : D → Sto → Prop), P (.str s) st → (reprD d).gives st P := by
  obtain ⟨p, e, w⟩ := g_shw d hg
  have hl : p.shown.length ≤ 16777216 := by
    have := PyData.shown_le_bulk 60 (by decide) p w.short
    rw [w.bulk] at this
    omega
  have hr : reprB p = true := by
    unfold reprB
    simp only [Bool.and_eq_true, decide_eq_true_eq]
    exact ⟨⟨⟨w.shows, hl⟩, by rw [w.deep]; exact hd⟩, sh_ok p w.oks⟩
  refine ⟨p.shown, okS_mk hl (sh_ok p w.oks), fun st P h => ?_⟩
  unfold reprD
  rw [M.gives_bind]
  have hv : view d = (pure d : M D) := by
    cases d <;> first | rfl | cases hg
  rw [hv]
  show M.gives (match d.pyR with | some p => if reprB p = true then pure (D.str p.shown) else M.bad | none => M.bad) st P
  rw [e]
  simp only
  rw [if_pos hr]
  exact h
end Sh
/-! what the defs of turnedlooks_k60_trees_judged compute (printed by wip/gen.py) -/
namespace K60
open PySem PySem.Spec PyProof.Rows L2 Sh
abbrev c_LETTERS : D := .str "abcdefghijklmnopqrstuvwxyz"
abbrev l_SURE : List Str := ["no", "yes"]
abbrev c_SURE : D := .tup (l_SURE.map .str)
abbrev l_UNSURE : List Str := ["fail", "no", "yes"]
abbrev c_UNSURE : D := .tup (l_UNSURE.map .str)
def b_is_name : MS := (seqS (retS (andD (e1 (isiD "str") (eV 0)) (andD (chainD (cmpI leI) (cmpI leI) (eC (.int 1)) (e1 lenD (eV 0)) (eC (.int 8))) (e1 (quantD allB) (eComp [1] (iStr (eV 0)) (setV 1) tYes (e2 inD (eV 1) (eC c_LETTERS)))))))
  skipS)
def f_is_name : List D → M D := runB 2 .val b_is_name
def b_is_leaf : MS := (seqS (ifS (orB (tNot (tB (e1 (isiD "tuple") (eV 0)))) (orB (tB (e2 eqD (e1 lenD (eV 0)) (eC (.int 0)))) (tNot (tB (e1 (isiD "str") (e2 ixD (eV 0) (eC (.int 0)))))))) (seqS (retS (eC (.bl false)))
  skipS) skipS)
  (seqS (ifS (tB (e2 eqD (e2 ixD (eV 0) (eC (.int 0))) (eC (.str "over")))) (seqS (retS (e2 eqD (e1 lenD (eV 0)) (eC (.int 1))))
  skipS) skipS)
  (seqS (ifS (tB (e2 neD (e1 lenD (eV 0)) (eC (.int 2)))) (seqS (retS (eC (.bl false)))
  skipS) skipS)
  (seqS (retS (orD (andD (e2 eqD (e2 ixD (eV 0) (eC (.int 0))) (eC (.str "told"))) (e1 (isiD "bool") (e2 ixD (eV 0) (eC (.int 1))))) (andD (e2 eqD (e2 ixD (eV 0) (eC (.int 0))) (eC (.str "failed"))) (eCall f_is_name (lCons (e2 ixD (eV 0) (eC (.int 1))) lNil)))))
  skipS))))
def f_is_leaf : List D → M D := runB 1 .val b_is_leaf
def b_is_son : MS := (seqS (retS (andD (e1 (isiD "tuple") (eV 0)) (andD (e2 eqD (e1 lenD (eV 0)) (eC (.int 2))) (e1 (isiD "str") (e2 ixD (eV 0) (eC (.int 0)))))))
  skipS)
def f_is_son : List D → M D := runB 1 .val b_is_son
def b_is_shaped (r : List D → M D) : MS := (seqS (ifS (tB (eCall f_is_leaf (lCons (eV 0) lNil))) (seqS (retS (eC (.bl true)))
  skipS) skipS)
  (seqS (ifS (orB (tNot (tB (e1 (isiD "tuple") (eV 0)))) (orB (tB (e2 neD (e1 lenD (eV 0)) (eC (.int 2)))) (orB (tNot (tB (eCall f_is_name (lCons (e2 ixD (eV 0) (eC (.int 0))) lNil)))) (tNot (tB (e1 (isiD "tuple") (e2 ixD (eV 0) (eC (.int 1))))))))) (seqS (retS (eC (.bl false)))
  skipS) skipS)
  (seqS (unpS (eV 0) (gTupD (gConsD (setV 3) (gConsD (setV 4) gNilD))))
  (seqS (ifS (tNot (tB (e1 (quantD allB) (eComp [5] (iSeq (eV 4)) (setV 5) tYes (eCall f_is_son (lCons (eV 5) lNil)))))) (seqS (retS (eC (.bl false)))
  skipS) skipS)
  (seqS (setS 2 (e1 tupleD (eComp [5] (iSeq (eV 4)) (setV 5) tYes (e2 ixD (eV 5) (eC (.int 0))))))
  (seqS (ifS (orB (tB (e2 notInD (eV 2) (eTup (lCons (eC c_SURE) (lCons (eC c_UNSURE) lNil))))) (tB (e2 neD (dget2M (eV 1) (eV 3) (eV 2)) (eV 2)))) (seqS (retS (eC (.bl false)))
  skipS) skipS)
  (seqS (setRefIt (eV 1) (eV 3) (eV 2))
  (seqS (retS (e1 (quantD allB) (eComp [5] (iSeq (eV 4)) (setV 5) tYes (eCall r (lCons (e2 ixD (eV 5) (eC (.int 1))) (lCons (eV 1) lNil))))))
  skipS))))))))
def f_is_shaped : Nat → List D → M D
  | 0 => fun _ => M.bad
  | n + 1 => runB 6 .val (b_is_shaped (f_is_shaped n))
def b_is_tree : MS := (seqS (retS (eCall (f_is_shaped 40) (lCons (eV 0) (lCons (eSto (eC (.dic []))) lNil))))
  skipS)
def f_is_tree : List D → M D := runB 1 .val b_is_tree
def b__law_begun : MS := (seqS (setS 1 (eSto (eComp [2] (iSeq (eV 0)) (setV 2) (tB (e2 (cmpI geI) (e1 absD (eV 2)) (e2 powD (eC (.int 10)) (eC (.int 18))))) (e2 subD (e1 absD (eV 2)) (e2 powD (eC (.int 10)) (eC (.int 18)))))))
  (seqS (retS (eSto (eDisp (pCons (eC (.str "wide")) (eV 1) (pCons (eC (.str "cells")) (eComp [2] (iSeq (eV 0)) (setV 2) tYes (e2 modD (e1 intD (e1 absD (eV 2))) (eC (.int 2147483629)))) (pCons (eC (.str "rest")) (eC (.int 0)) (pCons (eC (.str "turn")) (eC (.int 0)) pNil)))))))
  skipS))
def f__law_begun : List D → M D := runB 3 .val b__law_begun
def b__law_mixed : MS := (seqS (par2S 2 3 (lCons (e2 addD (e2 ixD (eV 0) (eC (.str "turn"))) (eC (.int 1))) (lCons (eC (.int 0)) lNil)))
  (seqS (setRefIt (eV 0) (eC (.str "turn")) (eV 2))
  (seqS (forE (iSeq (eLst (lCons (eC (.int 2147483629)) (lCons (eC (.int 2147483587)) (lCons (eC (.int 2147483579)) (lCons (eC (.int 2147483563)) lNil)))))) (setV 1) (seqS (setS 4 (e2 addD (e2 mulD (eC (.int 61441)) (eV 2)) (e2 divD (eV 1) (eC (.int 19)))))
  (seqS (forE (iSeq (e2 ixD (eV 0) (eC (.str "cells")))) (setV 5) (seqS (setS 4 (e2 modD (e1 intD (e2 addD (e2 addD (e2 mulD (eV 4) (eC (.int 48271))) (eV 5)) (eV 2))) (eV 1)))
  skipS))
  (seqS (setS 3 (e2 addD (e2 mulD (eV 3) (eC (.int 2147483647))) (e2 modD (e1 intD (e2 powD (eV 4) (eC (.int 5)))) (eV 1))))
  skipS))))
  (seqS (retS (eV 3))
  skipS))))
def f__law_mixed : List D → M D := runB 6 .val b__law_mixed
def b__law_take : MS := (seqS (ifS (tB (e2 eqD (e2 ixD (eV 0) (eC (.str "rest"))) (eC (.int 0)))) (seqS (setRefIt (eV 0) (eC (.str "rest")) (eIf (tB (e2 neD (e2 ixD (eV 0) (eC (.str "wide"))) (eLst lNil))) (popRefM (e2 ixD (eV 0) (eC (.str "wide"))) (eC (.int 0))) (eCall f__law_mixed (lCons (eV 0) lNil))))
  skipS) skipS)
  (seqS (setS 2 (e2 modD (e1 intD (e2 ixD (eV 0) (eC (.str "rest")))) (eV 1)))
  (seqS (setRefIt (eV 0) (eC (.str "rest")) (e2 divD (e2 ixD (eV 0) (eC (.str "rest"))) (eV 1)))
  (seqS (retS (eV 2))
  skipS))))
def f__law_take : List D → M D := runB 3 .val b__law_take
def b__law_pick : MS := (seqS (retS (e2 ixD (eV 1) (eCall f__law_take (lCons (eV 0) (lCons (e1 lenD (eV 1)) lNil)))))
  skipS)
def f__law_pick : List D → M D := runB 2 .val b__law_pick
def b__law_odd : MS := (seqS (setS 1 (eLst (lCons (eC .non) (lCons (eC (.bl true)) (lCons (eC (.bl false)) (lCons (eC (.int 0)) (lCons (eC (.int 1)) (lCons (e1 negD (eC (.int 1))) (lCons (e2 powD (eC (.int 10)) (eC (.int 20))) (lCons (eC (.str "")) (lCons (eC (.str "a")) (lCons (eC (.str "yes")) (lCons (eC (.str "deed")) (lCons (eTup lNil) (lCons (eTup (lCons (eC (.str "yes")) lNil)) (lCons (eTup (lCons (eC (.str "over")) lNil)) (lCons (eLst lNil) (lCons (eC (.dic [])) (lCons (eTup (lCons (eTup lNil) lNil)) lNil)))))))))))))))))))
  (seqS (retS (eCall f__law_pick (lCons (eV 0) (lCons (e2 catD (eV 1) (eLst (lCons (eTup (lCons (eC (.str "look")) (lCons (eC (.str "a")) lNil))) (lCons (eTup (lCons (eC (.str "do")) (lCons (eTup (lCons (eC (.str "yes")) lNil)) lNil))) (lCons (eLst (lCons (eC (.str "a")) lNil)) (lCons (eDisp (pCons (eC (.str "a")) (eC (.int 1)) pNil)) (lCons (eTup (lCons (eC (.str "a")) (lCons (eC (.bl true)) lNil))) (lCons (eTup (lCons (eTup lNil) (lCons (eTup lNil) lNil))) lNil)))))))) lNil))))
  skipS))
def f__law_odd : List D → M D := runB 2 .val b__law_odd
def b__law_labels : MS := (seqS (setS 2 (eLst (lCons (eC (.str "a")) (lCons (eC (.str "b")) (lCons (eC (.str "c")) (lCons (eC (.str "yes")) (lCons (eC (.str "no")) (lCons (eC (.str "fail")) (lCons (eC (.str "look")) (lCons (eC (.str "deed")) (lCons (eC (.str "and")) (lCons (eC (.str "if")) (lCons (eC (.str "over")) (lCons (eC (.str "told")) (lCons (eC (.str "zzzzzzzz")) (lCons (eC (.str "nothing")) lNil))))))))))))))))
  (seqS (setS 3 (eLst lNil))
  (seqS (forE (iRng (eV 1)) (setV 4) (seqS (appendS 3 (eCall f__law_pick (lCons (eV 0) (lCons (eComp [5] (iSeq (eV 2)) (setV 5) (tB (e2 notInD (eV 5) (eV 3))) (eV 5)) lNil))))
  skipS))
  (seqS (retS (eV 3))
  skipS))))
def f__law_labels : List D → M D := runB 6 .val b__law_labels
def b__law_kinds : MS := (seqS (setS 3 (eC (.dic [])))
  (seqS (forE (iSeq (e1 sortedD (eCall f__law_labels (lCons (eV 0) (lCons (e2 addD (eC (.int 2)) (eCall f__law_take (lCons (eV 0) (lCons (e2 subD (eV 1) (eC (.int 1))) lNil)))) lNil))))) (setV 4) (seqS (setOwnIt 3 (eV 4) (eIf (andB (tB (eV 2)) (tB (e2 eqD (eCall f__law_take (lCons (eV 0) (lCons (eC (.int 3)) lNil))) (eC (.int 0))))) (eLst (lCons (eC (.str "fail")) (lCons (eC (.str "no")) (lCons (eC (.str "yes")) lNil)))) (eLst (lCons (eC (.str "no")) (lCons (eC (.str "yes")) lNil)))))
  skipS))
  (seqS (retS (eV 3))
  skipS)))
def f__law_kinds : List D → M D := runB 5 .val b__law_kinds
def b__law_leaf : MS := (seqS (retS (eCall f__law_pick (lCons (eV 0) (lCons (eLst (lCons (eTup (lCons (eC (.str "told")) (lCons (eC (.bl true)) lNil))) (lCons (eTup (lCons (eC (.str "told")) (lCons (eC (.bl false)) lNil))) (lCons (eTup (lCons (eC (.str "told")) (lCons (eC (.bl true)) lNil))) (lCons (eTup (lCons (eC (.str "over")) lNil)) (lCons (eTup (lCons (eC (.str "failed")) (lCons (e2 ixD (e1 sortedD (eV 1)) (eC (.int 0))) lNil))) lNil)))))) lNil))))
  skipS)
def f__law_leaf : List D → M D := runB 2 .val b__law_leaf
def b__law_tree (r : List D → M D) : MS := (seqS (ifS (orB (tB (e2 (isNoneD id) (eV 3) (eC .non))) (tB (e2 eqD (eV 2) (eC (.int 0))))) (seqS (retS (eCall f__law_leaf (lCons (eV 0) (lCons (eV 1) lNil))))
  skipS) skipS)
  (seqS (par2S 5 6 (lCons (e1 sortedD (eV 1)) (lCons (e2 (cmpI gtI) (eCall f__law_take (lCons (eV 0) (lCons (eC (.int 4)) lNil))) (eC (.int 0))) lNil)))
  (seqS (par2S 7 8 (lCons (eCall f__law_pick (lCons (eV 0) (lCons (e2 catD (e2 repD (eV 5) (eC (.int 2))) (eLst (lCons (eC .non) lNil))) lNil))) (lCons (eLst lNil) lNil)))
  (seqS (forE (iSeq (e2 ixD (eV 1) (eV 3))) (setV 4) (seqS (setS 9 (eIf (tB (eV 6)) (eV 7) (eCall f__law_pick (lCons (eV 0) (lCons (e2 catD (eV 5) (eLst (lCons (eC .non) lNil))) lNil)))))
  (seqS (appendS 8 (eTup (lCons (eV 4) (lCons (eCall r (lCons (eV 0) (lCons (eV 1) (lCons (e2 subD (eV 2) (eC (.int 1))) (lCons (eV 9) lNil))))) lNil))))
  skipS)))
  (seqS (retS (eTup (lCons (eV 3) (lCons (e1 tupleD (eV 8)) lNil))))
  skipS)))))
def f__law_tree : Nat → List D → M D
  | 0 => fun _ => M.bad
  | n + 1 => runB 10 .val (b__law_tree (f__law_tree n))
def b__law_drawn_tree : MS := (seqS (retS (eCall (f__law_tree 5) (lCons (eV 0) (lCons (eV 1) (lCons (eV 2) (lCons (eCall f__law_pick (lCons (eV 0) (lCons (e2 catD (e2 repD (e1 sortedD (eV 1)) (eC (.int 3))) (eLst (lCons (eC .non) lNil))) lNil))) lNil))))))
  skipS)
def f__law_drawn_tree : List D → M D := runB 3 .val b__law_drawn_tree
def b__law_is_name : MS := (seqS (ifS (orB (tNot (tB (e1 (isiD "str") (eV 0)))) (tNot (tB (chainD (cmpI leI) (cmpI leI) (eC (.int 1)) (e1 lenD (eV 0)) (eC (.int 8)))))) (seqS (retS (eC (.bl false)))
  skipS) skipS)
  (seqS (retS (e2 eqLD (eComp [1] (iStr (eV 0)) (setV 1) (tB (e2 notInD (eV 1) (eC (.str "abcdefghijklmnopqrstuvwxyz")))) (eV 1)) (eLst lNil)))
  skipS))
def f__law_is_name : List D → M D := runB 2 .val b__law_is_name
def b__law_is_end_of_tree : MS := (seqS (ifS (orB (tNot (tB (e1 (isiD "tuple") (eV 0)))) (orB (tB (e2 eqD (e1 lenD (eV 0)) (eC (.int 0)))) (tNot (tB (e1 (isiD "str") (e2 ixD (eV 0) (eC (.int 0)))))))) (seqS (retS (eC (.bl false)))
  skipS) skipS)
  (seqS (ifS (tB (e2 eqD (e1 lenD (eV 0)) (eC (.int 1)))) (seqS (retS (e2 eqD (e2 ixD (eV 0) (eC (.int 0))) (eC (.str "over"))))
  skipS) skipS)
  (seqS (ifS (tB (e2 neD (e1 lenD (eV 0)) (eC (.int 2)))) (seqS (retS (eC (.bl false)))
  skipS) skipS)
  (seqS (retS (orD (andD (e2 eqD (e2 ixD (eV 0) (eC (.int 0))) (eC (.str "told"))) (e1 (isiD "bool") (e2 ixD (eV 0) (eC (.int 1))))) (andD (e2 eqD (e2 ixD (eV 0) (eC (.int 0))) (eC (.str "failed"))) (eCall f__law_is_name (lCons (e2 ixD (eV 0) (eC (.int 1))) lNil)))))
  skipS))))
def f__law_is_end_of_tree : List D → M D := runB 1 .val b__law_is_end_of_tree
def b__law_is_shape (r : List D → M D) : MS := (seqS (ifS (tB (eCall f__law_is_end_of_tree (lCons (eV 0) lNil))) (seqS (retS (eC (.bl true)))
  skipS) skipS)
  (seqS (ifS (orB (tNot (tB (e1 (isiD "tuple") (eV 0)))) (orB (tB (e2 neD (e1 lenD (eV 0)) (eC (.int 2)))) (orB (tNot (tB (eCall f__law_is_name (lCons (e2 ixD (eV 0) (eC (.int 0))) lNil)))) (tNot (tB (e1 (isiD "tuple") (e2 ixD (eV 0) (eC (.int 1))))))))) (seqS (retS (eC (.bl false)))
  skipS) skipS)
  (seqS (setS 2 (eLst lNil))
  (seqS (forE (iSeq (e2 ixD (eV 0) (eC (.int 1)))) (setV 3) (seqS (ifS (orB (tNot (tB (e1 (isiD "tuple") (eV 3)))) (orB (tB (e2 neD (e1 lenD (eV 3)) (eC (.int 2)))) (tNot (tB (e1 (isiD "str") (e2 ixD (eV 3) (eC (.int 0)))))))) (seqS (retS (eC (.bl false)))
  skipS) skipS)
  (seqS (appendS 2 (e2 ixD (eV 3) (eC (.int 0))))
  skipS)))
  (seqS (ifS (orB (tB (e2 notInD (eV 2) (eTup (lCons (eLst (lCons (eC (.str "no")) (lCons (eC (.str "yes")) lNil))) (lCons (eLst (lCons (eC (.str "fail")) (lCons (eC (.str "no")) (lCons (eC (.str "yes")) lNil)))) lNil))))) (tB (e2 neD (dget2M (eV 1) (e2 ixD (eV 0) (eC (.int 0))) (eV 2)) (eV 2)))) (seqS (retS (eC (.bl false)))
  skipS) skipS)
  (seqS (setRefMv 2 (eV 1) (e2 ixD (eV 0) (eC (.int 0))))
  (seqS (retS (e2 eqLD (eComp [3] (iSeq (e2 ixD (eV 0) (eC (.int 1)))) (setV 3) (tNot (tB (eCall r (lCons (e2 ixD (eV 3) (eC (.int 1))) (lCons (eV 1) lNil))))) (eV 3)) (eLst lNil)))
  skipS)))))))
def f__law_is_shape : Nat → List D → M D
  | 0 => fun _ => M.bad
  | n + 1 => runB 4 .val (b__law_is_shape (f__law_is_shape n))
def b__law_bent (r : List D → M D) : MS := (seqS (setS 4 (eLst (lCons (eTup (lCons (eC (.str "hangs")) lNil)) (lCons (eTup (lCons (eC (.str "told")) (lCons (eC (.int 1)) lNil))) (lCons (eTup (lCons (eC (.str "told")) (lCons (eC .non) lNil))) (lCons (eTup (lCons (eC (.str "over")) (lCons (eC (.int 1)) lNil))) (lCons (eTup (lCons (eC (.str "failed")) (lCons (eC (.str "A")) lNil))) (lCons (eTup (lCons (eC (.str "failed")) lNil)) (lCons (eTup (lCons (eC (.str "a")) (lCons (eTup lNil) lNil))) (lCons (eC (.str "no")) (lCons (eC (.str "yes")) lNil)))))))))))
  (seqS (setS 4 (e2 catD (eV 4) (eLst (lCons (eC (.str "fail")) (lCons (eC (.str "No")) (lCons (eC (.bl true)) (lCons (eTup (lCons (eC (.str "told")) (lCons (eC (.bl true)) lNil))) (lCons (eTup (lCons (eC (.str "over")) lNil)) (lCons (eTup (lCons (eC (.str "failed")) (lCons (eC (.str "a")) lNil))) (lCons (e2 ixD (e1 sortedD (eV 2)) (eC (.int 0))) lNil))))))))))
  (seqS (ifS (orB (tNot (tB (e1 (isi2D "list" "tuple") (eV 1)))) (orB (tB (e2 eqD (e1 lenD (eV 1)) (eC (.int 0)))) (orB (tB (e2 eqD (eV 3) (eC (.int 0)))) (tB (e2 eqD (eCall f__law_take (lCons (eV 0) (lCons (eC (.int 5)) lNil))) (eC (.int 0))))))) (seqS (retS (eCall f__law_pick (lCons (eV 0) (lCons (e2 catD (eV 4) (eLst (lCons (eCall f__law_odd (lCons (eV 0) lNil)) lNil))) lNil))))
  skipS) skipS)
  (seqS (par3S 5 6 7 (lCons (eCall f__law_take (lCons (eV 0) (lCons (e1 lenD (eV 1)) lNil))) (lCons (eCall f__law_take (lCons (eV 0) (lCons (eC (.int 10)) lNil))) (lCons (e1 listD (eV 1)) lNil))))
  (seqS (ifS (tB (e2 eqD (eV 6) (eC (.int 0)))) (seqS (popOwnS 7 (eV 5))
  skipS) (seqS (ifS (tB (e2 eqD (eV 6) (eC (.int 1)))) (seqS (insOwnS 7 (eV 5) (e2 ixD (eV 7) (eV 5)))
  skipS) (seqS (ifS (tB (e2 eqD (eV 6) (eC (.int 2)))) (seqS (appendS 7 (eCall f__law_pick (lCons (eV 0) (lCons (eV 4) lNil))))
  skipS) (seqS (ifS (tB (e2 eqD (eV 6) (eC (.int 3)))) (seqS (setS 7 (e1 revD (eV 7)))
  skipS) (seqS (setOwnIt 7 (eV 5) (eCall r (lCons (eV 0) (lCons (e2 ixD (eV 7) (eV 5)) (lCons (eV 2) (lCons (e2 subD (eV 3) (eC (.int 1))) lNil))))))
  skipS))
  skipS))
  skipS))
  skipS))
  (seqS (retS (eIf (tB (e2 eqD (eCall f__law_take (lCons (eV 0) (lCons (eC (.int 9)) lNil))) (eC (.int 0)))) (eV 7) (e1 tupleD (eV 7))))
  skipS))))))
def f__law_bent : Nat → List D → M D
  | 0 => fun _ => M.bad
  | n + 1 => runB 8 .val (b__law_bent (f__law_bent n))
def b_law : MS := (seqS (setS 1 (eCall f__law_begun (lCons (eV 0) lNil)))
  (seqS (forE (iRng (e2 addD (eC (.int 5)) (e2 minD (e1 lenD (eV 0)) (eC (.int 20))))) (setV 2) (seqS (setS 3 (eCall f__law_kinds (lCons (eV 1) (lCons (eC (.int 4)) (lCons (eC (.bl true)) lNil)))))
  (seqS (setS 4 (eCall f__law_drawn_tree (lCons (eV 1) (lCons (eV 3) (lCons (eC (.int 3)) lNil)))))
  (seqS (forE (iRng (eCall f__law_pick (lCons (eV 1) (lCons (eLst (lCons (eC (.int 0)) (lCons (eC (.int 0)) (lCons (eC (.int 1)) (lCons (eC (.int 1)) (lCons (eC (.int 2)) lNil)))))) lNil)))) (setV 5) (seqS (setS 4 (eCall (f__law_bent 10) (lCons (eV 1) (lCons (eV 4) (lCons (eV 3) (lCons (eC (.int 8)) lNil))))))
  skipS))
  (seqS (par2S 9 10 (lCons (eCall (f__law_is_shape 40) (lCons (eV 4) (lCons (eSto (eC (.dic []))) lNil))) (lCons (e1 reprD (eV 4)) lNil)))
  (seqS (ifS (orB (tB (e2 neD (e1 reprD (eLst (lCons (eCall f_is_tree (lCons (eV 4) lNil)) (lCons (eCallK f_is_tree (eV 4)) lNil)))) (e1 reprD (eLst (lCons (eV 9) (lCons (eV 9) lNil)))))) (tB (e2 neD (e1 reprD (eV 4)) (eV 10)))) (seqS (retS (eC (.bl false)))
  skipS) skipS)
  (seqS (setS 6 (eTup (lCons (eTup (lCons (eC (.str "no")) (lCons (eTup (lCons (eC (.str "over")) lNil)) lNil))) (lCons (eTup (lCons (eC (.str "yes")) (lCons (eTup (lCons (eC (.str "told")) (lCons (eC (.bl false)) lNil))) lNil))) lNil))))
  (seqS (forE (iSeq (eLst (lCons (eC (.str "told")) (lCons (eC (.str "over")) (lCons (eC (.str "failed")) (lCons (eC (.str "hangs")) (lCons (e2 ixD (e1 sortedD (eV 3)) (eC (.int 0))) lNil))))))) (setV 7) (seqS (setS 11 (eTup (lCons (eC (.str "zz")) (lCons (eTup (lCons (eTup (lCons (eC (.str "no")) (lCons (eTup (lCons (eV 7) (lCons (eV 6) lNil))) lNil))) (lCons (eTup (lCons (eC (.str "yes")) (lCons (eTup (lCons (eV 7) (lCons (e2 addD (eTup (lCons (eTup (lCons (eC (.str "fail")) (lCons (eTup (lCons (eC (.str "over")) lNil)) lNil))) lNil)) (eV 6)) lNil))) lNil))) lNil))) lNil))))
  (seqS (ifS (orB (tB (e2 (isBD not) (eCall f_is_tree (lCons (eTup (lCons (eV 7) (lCons (eV 6) lNil))) lNil)) (eC (.bl true)))) (tB (e2 (isBD not) (eCall f_is_tree (lCons (eV 11) lNil)) (eC (.bl false))))) (seqS (retS (eC (.bl false)))
  skipS) skipS)
  skipS)))
  (seqS (setS 8 (eCall f__law_odd (lCons (eV 1) lNil)))
  (seqS (ifS (tB (e2 neD (eCall f_is_tree (lCons (eV 8) lNil)) (eCall (f__law_is_shape 40) (lCons (eV 8) (lCons (eSto (eC (.dic []))) lNil))))) (seqS (retS (eC (.bl false)))
  skipS) skipS)
  skipS))))))))))
  (seqS (retS (eC (.bl true)))
  skipS)))
def f_law : List D → M D := runB 12 .val b_law
end K60
namespace K60
open PySem PySem.Spec PyProof.Rows L2 Sh
abbrev cellsB : MS := seqS (setS 4 (e2 modD (e1 Sh.intD (e2 addD (e2 addD (e2 mulD (eV 4) (eC (.int 48271))) (eV 5)) (eV 2))) (eV 1))) skipS
theorem mulC_r {i j : Int} (h : -(2 ^ 64) < j ∧ j < 2 ^ 64) : mulC i j = true := by unfold mulC; exact decide_eq_true (.inr h)
theorem mulC_l {i j : Int} (h : -(2 ^ 64) < i ∧ i < 2 ^ 64) : mulC i j = true := by unfold mulC; exact decide_eq_true (.inl h)
theorem modC_ok {i j : Int} (h : 0 < j) : modC i j = true := by unfold modC; exact decide_eq_true h
theorem divC_ok {i j : Int} (h : 0 < j) (h2 : j < 1073741824) : divC i j = true := by unfold divC; exact decide_eq_true ⟨h, h2⟩
theorem mixed_cells (p : Int) (hp : 0 < p) (tn : Int) (ht : 0 ≤ tn) : ∀ (cs : List Int) (b : Int) (f : D) (st : Sto) (P : Fl × Sh.Env → Sto → Prop) (y : Option D), (∀ c ∈ cs, 0 ≤ c) → 0 ≤ b → (cs ≠ [] ∨ b < p → ∀ b' y, 0 ≤ b' → b' < p → P (.nx, [some (.ref 1), some (.int p), some (.int tn), some f, some (.int b'), y]) st) → (¬ (cs ≠ [] ∨ b < p) → P (.nx, [some (.ref 1), some (.int p), some (.int tn), some f, some (.int b), y]) st) →
    (forS (setV 5) cellsB (cs.map .int) [some (.ref 1), some (.int p), some (.int tn), some f, some (.int b), y]).gives st P := by
  intro cs
  induction cs with
  | nil =>
    intro b f st P y _ hb h h2
    by_cases q : b < p
    · exact h (.inr q) b y hb q
    · exact h2 (by simp [q])
  | cons c cs ih =>
    intro b f st P y hc hb h h2
    have hc0 := hc c List.mem_cons_self
    have hb' : 0 ≤ (b * 48271 + c + tn) % p := Int.emod_nonneg _ (by omega)
    have hl' : (b * 48271 + c + tn) % p < p := Int.emod_lt_of_pos _ hp
    simp only [List.map_cons, List.map_nil, forS, setV, List.set_cons_succ, List.set_cons_zero, gv_bind, gv_seq, setS, Sh.retS, getV, List.getElem?_cons_succ, List.getElem?_cons_zero, gv_pure, mulD, addD, modD, Sh.intD, Sh.subD, Sh.divD, Sh.powD, arI, gv_guard, skipS, runB, Sh.envOf, par2S, par3S, gv_ifS, gv_eIf, gv_orB, gv_andB, asB, List.length_cons, List.length_nil, List.replicate, List.map, List.append_nil, List.cons_append, List.nil_append, setRefIt, ix_w, ix_c, ix_r, ix_t, pr_r, pr_t, eq_ii, ne_ii, appendS, lstOf, isNoneD, isND, id_eq, cmpI, gtI, leI, setOwnIt, true_and, wipeE, rng1, catD, negD, repD, ne_w, need_w, popRefM, pop_w, itemsD, Nat.reduceAdd, Nat.reduceSub, Int.reduceLT, lenV_lst, lenV_tup, lenV_str]
    refine ⟨mulC_r (by decide), modC_ok hp, ?_⟩
    exact ih _ _ _ _ _ (fun x hx => hc x (List.mem_cons_of_mem _ hx)) hb' (fun _ => h (.inl (by simp))) fun q => absurd (.inr hl') q
abbrev primesB : MS := seqS (setS 4 (e2 addD (e2 mulD (eC (.int 61441)) (eV 2)) (e2 divD (eV 1) (eC (.int 19))))) (seqS (forE (iSeq (e2 ixD (eV 0) (eC (.str kC)))) (setV 5) cellsB) (seqS (setS 3 (e2 addD (e2 mulD (eV 3) (eC (.int 2147483647))) (e2 modD (e1 Sh.intD (e2 powD (eV 4) (eC (.int 5)))) (eV 1)))) skipS))
theorem powC_ok {i : Int} (h : i.natAbs < 2 ^ 64) : powC i 5 = true := by unfold powC; exact decide_eq_true ⟨by decide, by decide, h⟩
theorem mixed_primes {ws cs : List Int} {r t : Int} {R : Sto} (tn : Int) (ht : 0 ≤ tn) (ht2 : tn < 2 ^ 40) (hc : ∀ c ∈ cs, 0 ≤ c) : ∀ (ps : List Int) (f : Int) (P : Fl × Sh.Env → Sto → Prop) (x y z : Option D), (∀ p ∈ ps, 0 < p ∧ p < 2 ^ 32) → 0 ≤ f → (∀ f' x y z, 0 ≤ f' → P (.nx, [some (.ref 1), x, some (.int tn), some (.int f'), y, z]) (dst ws (cs.map .int) r t R)) →
    (forS (setV 1) primesB (ps.map .int) [some (.ref 1), x, some (.int tn), some (.int f), y, z]).gives (dst ws (cs.map .int) r t R) P := by
  intro ps
  induction ps with
  | nil =>
    intro f P x y z _ hf h
    exact h f x y z hf
  | cons p ps ih =>
    intro f P x y z hp hf h
    obtain ⟨p0, p1⟩ := hp p List.mem_cons_self
    have hb0 : 0 ≤ 61441 * tn + p / 19 := by omega
    have last : ∀ (b' : Int) (y : Option D), 0 ≤ b' → b' < 2 ^ 60 → (seqS (setS 3 (e2 addD (e2 mulD (eV 3) (eC (.int 2147483647))) (e2 modD (e1 Sh.intD (e2 powD (eV 4) (eC (.int 5)))) (eV 1)))) skipS [some (.ref 1), some (.int p), some (.int tn), some (.int f), some (.int b'), y]).gives (dst ws (cs.map .int) r t R) fun a st' => (match a.1 with | .nx => forS (setV 1) primesB (ps.map .int) a.2 | .ct => forS (setV 1) primesB (ps.map .int) a.2 | .bk => pure (.nx, a.2) | .rt d => pure (.rt d, a.2) : M (Fl × Sh.Env)).gives st' P := by
      intro b' y h0 h1
      have hm : 0 ≤ b' ^ (5 : Int).toNat % p := Int.emod_nonneg _ (by omega)
      simp only [List.map_cons, List.map_nil, forS, setV, List.set_cons_succ, List.set_cons_zero, gv_bind, gv_seq, setS, Sh.retS, getV, List.getElem?_cons_succ, List.getElem?_cons_zero, gv_pure, mulD, addD, modD, Sh.intD, Sh.subD, Sh.divD, Sh.powD, arI, gv_guard, skipS, runB, Sh.envOf, par2S, par3S, gv_ifS, gv_eIf, gv_orB, gv_andB, asB, List.length_cons, List.length_nil, List.replicate, List.map, List.append_nil, List.cons_append, List.nil_append, setRefIt, ix_w, ix_c, ix_r, ix_t, pr_r, pr_t, eq_ii, ne_ii, appendS, lstOf, isNoneD, isND, id_eq, cmpI, gtI, leI, setOwnIt, true_and, wipeE, rng1, catD, negD, repD, ne_w, need_w, popRefM, pop_w, itemsD, Nat.reduceAdd, Nat.reduceSub, Int.reduceLT, lenV_lst, lenV_tup, lenV_str]
      refine ⟨mulC_r (by decide), powC_ok (by omega), modC_ok p0, ?_⟩
      exact ih _ _ _ _ _ (fun x hx => hp x (List.mem_cons_of_mem _ hx)) (by omega) h
    simp only [List.map_cons, List.map_nil, forS, setV, List.set_cons_succ, List.set_cons_zero, gv_bind, gv_seq, setS, Sh.retS, getV, List.getElem?_cons_succ, List.getElem?_cons_zero, gv_pure, mulD, addD, modD, Sh.intD, Sh.subD, Sh.divD, Sh.powD, arI, gv_guard, skipS, runB, Sh.envOf, par2S, par3S, gv_ifS, gv_eIf, gv_orB, gv_andB, asB, List.length_cons, List.length_nil, List.replicate, List.map, List.append_nil, List.cons_append, List.nil_append, setRefIt, ix_w, ix_c, ix_r, ix_t, pr_r, pr_t, eq_ii, ne_ii, appendS, lstOf, isNoneD, isND, id_eq, cmpI, gtI, leI, setOwnIt, true_and, wipeE, rng1, catD, negD, repD, ne_w, need_w, popRefM, pop_w, itemsD, Nat.reduceAdd, Nat.reduceSub, Int.reduceLT, lenV_lst, lenV_tup, lenV_str]
    refine ⟨mulC_l (by decide), divC_ok (by decide) (by decide), ?_⟩
    refine mixed_cells p p0 tn ht cs _ _ _ _ _ hc hb0 (fun _ b' y h0 h1 => ?_) (fun _ => ?_)
    · have := last b' y h0 (by omega)
      simp only [List.map_cons, List.map_nil, forS, setV, List.set_cons_succ, List.set_cons_zero, gv_bind, gv_seq, setS, Sh.retS, getV, List.getElem?_cons_succ, List.getElem?_cons_zero, gv_pure, mulD, addD, modD, Sh.intD, Sh.subD, Sh.divD, Sh.powD, arI, gv_guard, skipS, runB, Sh.envOf, par2S, par3S, gv_ifS, gv_eIf, gv_orB, gv_andB, asB, List.length_cons, List.length_nil, List.replicate, List.map, List.append_nil, List.cons_append, List.nil_append, setRefIt, ix_w, ix_c, ix_r, ix_t, pr_r, pr_t, eq_ii, ne_ii, appendS, lstOf, isNoneD, isND, id_eq, cmpI, gtI, leI, setOwnIt, true_and, wipeE, rng1, catD, negD, repD, ne_w, need_w, popRefM, pop_w, itemsD, Nat.reduceAdd, Nat.reduceSub, Int.reduceLT, lenV_lst, lenV_tup, lenV_str] at this ⊢
      exact this
    · have := last (61441 * tn + p / 19) z hb0 (by omega)
      simp only [List.map_cons, List.map_nil, forS, setV, List.set_cons_succ, List.set_cons_zero, gv_bind, gv_seq, setS, Sh.retS, getV, List.getElem?_cons_succ, List.getElem?_cons_zero, gv_pure, mulD, addD, modD, Sh.intD, Sh.subD, Sh.divD, Sh.powD, arI, gv_guard, skipS, runB, Sh.envOf, par2S, par3S, gv_ifS, gv_eIf, gv_orB, gv_andB, asB, List.length_cons, List.length_nil, List.replicate, List.map, List.append_nil, List.cons_append, List.nil_append, setRefIt, ix_w, ix_c, ix_r, ix_t, pr_r, pr_t, eq_ii, ne_ii, appendS, lstOf, isNoneD, isND, id_eq, cmpI, gtI, leI, setOwnIt, true_and, wipeE, rng1, catD, negD, repD, ne_w, need_w, popRefM, pop_w, itemsD, Nat.reduceAdd, Nat.reduceSub, Int.reduceLT, lenV_lst, lenV_tup, lenV_str] at this ⊢
      exact this
/-! ### the drawing -/
def Dw (cs : List Int) (R : Sto) (T : Int) (st : Sto) : Prop := ∃ ws r t, st = dst ws (cs.map .int) r t R ∧ (∀ w ∈ ws, 0 ≤ w) ∧ (∀ c ∈ cs, 0 ≤ c) ∧ 0 ≤ r ∧ 0 ≤ t ∧ t ≤ T
theorem Dw.up {cs : List Int} {R : Sto} {T T' : Int} {st : Sto} (h : Dw cs R T st) (l : T ≤ T') : Dw cs R T' st :=
  let ⟨ws, r, t, e, a, b, c, d, f⟩ := h; ⟨ws, r, t, e, a, b, c, d, Int.le_trans f l⟩
theorem mixed_g {ws cs : List Int} {r t : Int} {R : Sto} (hc : ∀ c ∈ cs, 0 ≤ c) (ht : 0 ≤ t) (ht2 : t < 2 ^ 39) : (f__law_mixed [.ref 1]).gives (dst ws (cs.map .int) r t R) fun d st' => ∃ i, 0 ≤ i ∧ d = .int i ∧ st' = dst ws (cs.map .int) r (t + 1) R := by
  unfold f__law_mixed b__law_mixed
  have key := mixed_primes (ws := ws) (cs := cs) (r := r) (t := t + 1) (R := R) (t + 1) (by omega) (by omega) hc [2147483629, 2147483587, 2147483579, 2147483563] 0 (fun rr st' => (match rr.1 with | .nx => seqS (Sh.retS (eV 3)) skipS rr.2 | _ => pure rr : M (Fl × Sh.Env)).gives st' fun a st' => (match a.1, Kd.val with | .rt d, _ => pure d | .nx, .val => pure .non | _, _ => M.bad : M D).gives st' fun d st' => ∃ i, 0 ≤ i ∧ d = .int i ∧ st' = dst ws (cs.map .int) r (t + 1) R) none none none (by decide) (by decide) (fun f' x y z hf => by
    simp only [List.map_cons, List.map_nil, forS, setV, List.set_cons_succ, List.set_cons_zero, gv_bind, gv_seq, setS, Sh.retS, getV, List.getElem?_cons_succ, List.getElem?_cons_zero, gv_pure, mulD, addD, modD, Sh.intD, Sh.subD, Sh.divD, Sh.powD, arI, gv_guard, skipS, runB, Sh.envOf, par2S, par3S, gv_ifS, gv_eIf, gv_orB, gv_andB, asB, List.length_cons, List.length_nil, List.replicate, List.map, List.append_nil, List.cons_append, List.nil_append, setRefIt, ix_w, ix_c, ix_r, ix_t, pr_r, pr_t, eq_ii, ne_ii, appendS, lstOf, isNoneD, isND, id_eq, cmpI, gtI, leI, setOwnIt, true_and, wipeE, rng1, catD, negD, repD, ne_w, need_w, popRefM, pop_w, itemsD, Nat.reduceAdd, Nat.reduceSub, Int.reduceLT, lenV_lst, lenV_tup, lenV_str]
    exact ⟨f', hf, rfl, trivial⟩)
  simp only [List.map_cons, List.map_nil, forS, setV, List.set_cons_succ, List.set_cons_zero, gv_bind, gv_seq, setS, Sh.retS, getV, List.getElem?_cons_succ, List.getElem?_cons_zero, gv_pure, mulD, addD, modD, Sh.intD, Sh.subD, Sh.divD, Sh.powD, arI, gv_guard, skipS, runB, Sh.envOf, par2S, par3S, gv_ifS, gv_eIf, gv_orB, gv_andB, asB, List.length_cons, List.length_nil, List.replicate, List.map, List.append_nil, List.cons_append, List.nil_append, setRefIt, ix_w, ix_c, ix_r, ix_t, pr_r, pr_t, eq_ii, ne_ii, appendS, lstOf, isNoneD, isND, id_eq, cmpI, gtI, leI, setOwnIt, true_and, wipeE, rng1, catD, negD, repD, ne_w, need_w, popRefM, pop_w, itemsD, Nat.reduceAdd, Nat.reduceSub, Int.reduceLT, lenV_lst, lenV_tup, lenV_str] at key ⊢
  exact key
theorem take_g {cs : List Int} {R : Sto} {T : Int} {st : Sto} (h : Dw cs R T st) (hT : T < 2 ^ 39) {n : Int} (hn : 0 < n) (hn2 : n < 1073741824) : (f__law_take [.ref 1, .int n]).gives st fun d st' => ∃ i, d = .int i ∧ 0 ≤ i ∧ i < n ∧ Dw cs R (T + 1) st' := by
  obtain ⟨ws, r, t, rfl, hw, hc, hr, ht, hT2⟩ := h
  unfold f__law_take b__law_take
  have fin : ∀ (ws : List Int) (r t : Int), (∀ w ∈ ws, 0 ≤ w) → 0 ≤ r → 0 ≤ t → t ≤ T + 1 → (r % n < n ∧ 0 ≤ r % n ∧ 0 ≤ r / n) ∧ Dw cs R (T + 1) (dst ws (cs.map .int) (r / n) t R) := fun ws r t hw hr ht hT => by
    have h1 : 0 ≤ r / n := Int.ediv_nonneg hr (by omega)
    exact ⟨⟨Int.emod_lt_of_pos _ hn, Int.emod_nonneg _ (by omega), h1⟩, ws, r / n, t, rfl, hw, hc, h1, ht, hT⟩
  simp only [List.map_cons, List.map_nil, forS, setV, List.set_cons_succ, List.set_cons_zero, gv_bind, gv_seq, setS, Sh.retS, getV, List.getElem?_cons_succ, List.getElem?_cons_zero, gv_pure, mulD, addD, modD, Sh.intD, Sh.subD, Sh.divD, Sh.powD, arI, gv_guard, skipS, runB, Sh.envOf, par2S, par3S, gv_ifS, gv_eIf, gv_orB, gv_andB, asB, List.length_cons, List.length_nil, List.replicate, List.map, List.append_nil, List.cons_append, List.nil_append, setRefIt, ix_w, ix_c, ix_r, ix_t, pr_r, pr_t, eq_ii, ne_ii, appendS, lstOf, isNoneD, isND, id_eq, cmpI, gtI, leI, setOwnIt, true_and, wipeE, rng1, catD, negD, repD, ne_w, need_w, popRefM, pop_w, itemsD, Nat.reduceAdd, Nat.reduceSub, Int.reduceLT, lenV_lst, lenV_tup, lenV_str]
  refine ⟨fun e => ⟨fun e1 => ?_, fun e1 => ?_⟩, fun e => ?_⟩
  · cases ws with
    | nil => cases e1
    | cons w ws =>
      simp only [List.map_cons, List.map_nil, forS, setV, List.set_cons_succ, List.set_cons_zero, gv_bind, gv_seq, setS, Sh.retS, getV, List.getElem?_cons_succ, List.getElem?_cons_zero, gv_pure, mulD, addD, modD, Sh.intD, Sh.subD, Sh.divD, Sh.powD, arI, gv_guard, skipS, runB, Sh.envOf, par2S, par3S, gv_ifS, gv_eIf, gv_orB, gv_andB, asB, List.length_cons, List.length_nil, List.replicate, List.map, List.append_nil, List.cons_append, List.nil_append, setRefIt, ix_w, ix_c, ix_r, ix_t, pr_r, pr_t, eq_ii, ne_ii, appendS, lstOf, isNoneD, isND, id_eq, cmpI, gtI, leI, setOwnIt, true_and, wipeE, rng1, catD, negD, repD, ne_w, need_w, popRefM, pop_w, itemsD, Nat.reduceAdd, Nat.reduceSub, Int.reduceLT, lenV_lst, lenV_tup, lenV_str]
      obtain ⟨⟨a, b, _⟩, c⟩ := fin ws w t (fun x hx => hw x (List.mem_cons_of_mem _ hx)) (hw w List.mem_cons_self) ht (by omega)
      exact ⟨modC_ok hn, divC_ok hn hn2, w % n, rfl, b, a, c⟩
  · refine M.gives_mono (mixed_g hc ht (by omega)) fun d st' ⟨i, hi, e2, e3⟩ => ?_
    subst e2 e3
    simp only [List.map_cons, List.map_nil, forS, setV, List.set_cons_succ, List.set_cons_zero, gv_bind, gv_seq, setS, Sh.retS, getV, List.getElem?_cons_succ, List.getElem?_cons_zero, gv_pure, mulD, addD, modD, Sh.intD, Sh.subD, Sh.divD, Sh.powD, arI, gv_guard, skipS, runB, Sh.envOf, par2S, par3S, gv_ifS, gv_eIf, gv_orB, gv_andB, asB, List.length_cons, List.length_nil, List.replicate, List.map, List.append_nil, List.cons_append, List.nil_append, setRefIt, ix_w, ix_c, ix_r, ix_t, pr_r, pr_t, eq_ii, ne_ii, appendS, lstOf, isNoneD, isND, id_eq, cmpI, gtI, leI, setOwnIt, true_and, wipeE, rng1, catD, negD, repD, ne_w, need_w, popRefM, pop_w, itemsD, Nat.reduceAdd, Nat.reduceSub, Int.reduceLT, lenV_lst, lenV_tup, lenV_str]
    obtain ⟨⟨a, b, _⟩, c⟩ := fin ws i (t + 1) hw hi (by omega) (by omega)
    exact ⟨modC_ok hn, divC_ok hn hn2, i % n, rfl, b, a, c⟩
  · refine ⟨modC_ok hn, divC_ok hn hn2, r % n, rfl, ?_⟩
    obtain ⟨⟨a, b, _⟩, c⟩ := fin ws r t hw hr ht (by omega)
    exact ⟨b, a, c⟩
theorem atI_mem {xs : List D} {i : Int} (h0 : 0 ≤ i) (h1 : i < xs.length) : ∃ d, atI xs i = some d ∧ d ∈ xs := by
  unfold atI ixN
  rw [if_pos h0, if_pos h1]
  have : i.toNat < xs.length := by omega
  exact ⟨xs[i.toNat], List.getElem?_eq_getElem this, List.getElem_mem this⟩
theorem pick_g {cs : List Int} {R : Sto} {T : Int} {st : Sto} (h : Dw cs R T st) (hT : T < 2 ^ 39) {xs : List D} (h0 : xs ≠ []) (hl : xs.length < 1073741824) : (f__law_pick [.ref 1, .lst xs]).gives st fun d st' => d ∈ xs ∧ Dw cs R (T + 1) st' := by
  unfold f__law_pick b__law_pick
  simp only [List.map_cons, List.map_nil, forS, setV, List.set_cons_succ, List.set_cons_zero, gv_bind, gv_seq, setS, Sh.retS, getV, List.getElem?_cons_succ, List.getElem?_cons_zero, gv_pure, mulD, addD, modD, Sh.intD, Sh.subD, Sh.divD, Sh.powD, arI, gv_guard, skipS, runB, Sh.envOf, par2S, par3S, gv_ifS, gv_eIf, gv_orB, gv_andB, asB, List.length_cons, List.length_nil, List.replicate, List.map, List.append_nil, List.cons_append, List.nil_append, setRefIt, ix_w, ix_c, ix_r, ix_t, pr_r, pr_t, eq_ii, ne_ii, appendS, lstOf, isNoneD, isND, id_eq, cmpI, gtI, leI, setOwnIt, true_and, wipeE, rng1, catD, negD, repD, ne_w, need_w, popRefM, pop_w, itemsD, Nat.reduceAdd, Nat.reduceSub, Int.reduceLT, lenV_lst, lenV_tup, lenV_str]
  have hp : 0 < xs.length := List.length_pos_iff.mpr h0
  refine M.gives_mono (take_g h hT (by omega) (by omega)) fun d st' ⟨i, e, a, b, c⟩ => ?_
  subst e
  obtain ⟨x, hx, hm⟩ := atI_mem a b
  show (ofO (atI xs i)).gives st' _
  rw [hx]
  simp only [ofO, List.map_cons, List.map_nil, forS, setV, List.set_cons_succ, List.set_cons_zero, gv_bind, gv_seq, setS, Sh.retS, getV, List.getElem?_cons_succ, List.getElem?_cons_zero, gv_pure, mulD, addD, modD, Sh.intD, Sh.subD, Sh.divD, Sh.powD, arI, gv_guard, skipS, runB, Sh.envOf, par2S, par3S, gv_ifS, gv_eIf, gv_orB, gv_andB, asB, List.length_cons, List.length_nil, List.replicate, List.map, List.append_nil, List.cons_append, List.nil_append, setRefIt, ix_w, ix_c, ix_r, ix_t, pr_r, pr_t, eq_ii, ne_ii, appendS, lstOf, isNoneD, isND, id_eq, cmpI, gtI, leI, setOwnIt, true_and, wipeE, rng1, catD, negD, repD, ne_w, need_w, popRefM, pop_w, itemsD, Nat.reduceAdd, Nat.reduceSub, Int.reduceLT, lenV_lst, lenV_tup, lenV_str]
  exact ⟨hm, c⟩
def lab : List Str := ["a", "b", "c", "yes", "no", "fail", "look", "deed", "and", "if", "over", "told", "zzzzzzzz", "nothing"]
theorem lab_nd : lab.Nodup := by decide +kernel
abbrev labB : MS := seqS (appendS 3 (eCall f__law_pick (lCons (eV 0) (lCons (eComp [5] (iSeq (eV 2)) (setV 5) (tB (e2 notInD (eV 5) (eV 3))) (eV 5)) lNil)))) skipS
theorem labels_loop {cs : List Int} {R : Sto} : ∀ (ds : List D) (ss : List Str) (T : Int) (st : Sto) (n x y : Option D) (P : Fl × Sh.Env → Sto → Prop), ss.length + ds.length ≤ 6 → (∀ s ∈ ss, s ∈ lab) → Dw cs R T st → T + ds.length < 2 ^ 39 →
    (∀ (ss' : List Str) st' x, ss'.length = ss.length + ds.length → (∀ s ∈ ss', s ∈ lab) → Dw cs R (T + ds.length) st' → P (.nx, [some (.ref 1), n, some (.lst (lab.map .str)), some (.lst (ss'.map .str)), x, y]) st') →
    (forS (setV 4) labB ds [some (.ref 1), n, some (.lst (lab.map .str)), some (.lst (ss.map .str)), x, y]).gives st P
  | [], ss, T, st, n, x, y, P, _, hs, hd, _, h => h ss st x rfl hs (hd.up (by simp))
  | d :: ds, ss, T, st, n, x, y, P, hl, hs, hd, hT, h => by
    have hl' : ss.length + (ds.length + 1) ≤ 6 := by simpa using hl
    have hT' : T + (ds.length + 1) < 2 ^ 39 := by simpa using hT
    have ne : (lab.filter fun x => !decide (x ∈ ss)) ≠ [] := fun e => by
      have sub : lab ⊆ ss := fun x hx => by
        apply Classical.byContradiction
        intro q
        have : x ∈ lab.filter fun x => !decide (x ∈ ss) := List.mem_filter.mpr ⟨hx, by simp [q]⟩
        rw [e] at this
        simp at this
      have := List.Nodup.length_le_of_subset lab_nd sub
      have e2 : lab.length = 14 := rfl
      omega
    have hc := comp_notIn (i := 5) (m := tB (e2 notInD (eV 5) (eV 3))) (ss := ss) (ρ := [some (.ref 1), n, some (.lst (lab.map .str)), some (.lst (ss.map .str)), some d, none]) (fun x ρ' st e => by
      cases e
      have q := (notIn_strs (x := x) (ss := ss) (st := st) (P := fun d st' => d = .bl (!decide (x ∈ ss)) ∧ st' = st)).mpr ⟨rfl, rfl⟩
      obtain ⟨a, st', e1, e2, e3⟩ := M.gives_det q
      show (M.bind (notInD (.str x) (.lst (ss.map .str))) fun x => asB x) st = _
      unfold M.bind
      rw [e1, e2, e3]
      rfl) (fun x ρ' e => by cases e; rfl) lab st
    have hp := pick_g hd (by omega) (xs := (lab.filter fun x => !decide (x ∈ ss)).map .str) (by simpa using ne) (by
      have := List.length_filter_le (fun x => !decide (x ∈ ss)) lab
      rw [List.length_map]
      have e2 : lab.length = 14 := rfl
      omega)
    simp only [List.map_cons, List.map_nil, forS, setV, List.set_cons_succ, List.set_cons_zero, gv_bind, gv_seq, setS, Sh.retS, getV, List.getElem?_cons_succ, List.getElem?_cons_zero, gv_pure, mulD, addD, modD, Sh.intD, Sh.subD, Sh.divD, Sh.powD, arI, gv_guard, skipS, runB, Sh.envOf, par2S, par3S, gv_ifS, gv_eIf, gv_orB, gv_andB, asB, List.length_cons, List.length_nil, List.replicate, List.map, List.append_nil, List.cons_append, List.nil_append, setRefIt, ix_w, ix_c, ix_r, ix_t, pr_r, pr_t, eq_ii, ne_ii, appendS, lstOf, isNoneD, isND, id_eq, cmpI, gtI, leI, setOwnIt, true_and, wipeE, rng1, catD, negD, repD, ne_w, need_w, popRefM, pop_w, itemsD, Nat.reduceAdd, Nat.reduceSub, Int.reduceLT, lenV_lst, lenV_tup, lenV_str]
    rw [M.gives_ok hc]
    refine M.gives_mono hp fun e st' ⟨hm, hd'⟩ => ?_
    obtain ⟨s, hs', rfl⟩ := List.mem_map.mp hm
    refine ⟨by rw [List.length_map]; omega, ?_⟩
    have e4 : (ss.map D.str ++ [D.str s]) = (ss ++ [s]).map D.str := by simp
    rw [e4]
    refine labels_loop ds (ss ++ [s]) (T + 1) st' n _ y P (by simp; omega) (fun x hx => ?_) hd' (by omega) fun ss' st2 x h1 h2 h3 => ?_
    · rcases List.mem_append.mp hx with hx | hx
      · exact hs x hx
      · have e5 : x = s := by simpa using hx
        rw [e5]
        exact (List.mem_filter.mp hs').1
    · exact h ss' st2 x (by simp at h1 ⊢; omega) h2 (h3.up (by simp; omega))
theorem labels_g {cs : List Int} {R : Sto} {T : Int} {st : Sto} (h : Dw cs R T st) (n : Int) (hn : 0 ≤ n) (hn2 : n ≤ 6) (hT : T + n < 2 ^ 39) : (f__law_labels [.ref 1, .int n]).gives st fun d st' => ∃ ss : List Str, d = .lst (ss.map .str) ∧ ss.length = n ∧ (∀ s ∈ ss, s ∈ lab) ∧ Dw cs R (T + n) st' := by
  unfold f__law_labels b__law_labels
  have hr : (rangeD 0 n).length = n.toNat := by simp [rangeD]
  have key := labels_loop (cs := cs) (R := R) (rangeD 0 n) [] T st (some (.int n)) none none (fun rr st' => (match rr.1 with | .nx => seqS (Sh.retS (eV 3)) skipS rr.2 | _ => pure rr : M (Fl × Sh.Env)).gives st' fun a st' => (match a.1, Kd.val with | .rt d, _ => pure d | .nx, .val => pure .non | _, _ => M.bad : M D).gives st' fun d st' => ∃ ss : List Str, d = .lst (ss.map .str) ∧ ss.length = n ∧ (∀ s ∈ ss, s ∈ lab) ∧ Dw cs R (T + n) st')
    (by rw [hr]; simp; omega) (by simp) h (by rw [hr]; omega) (fun ss' st' x h1 h2 h3 => by
      simp only [List.map_cons, List.map_nil, forS, setV, List.set_cons_succ, List.set_cons_zero, gv_bind, gv_seq, setS, Sh.retS, getV, List.getElem?_cons_succ, List.getElem?_cons_zero, gv_pure, mulD, addD, modD, Sh.intD, Sh.subD, Sh.divD, Sh.powD, arI, gv_guard, skipS, runB, Sh.envOf, par2S, par3S, gv_ifS, gv_eIf, gv_orB, gv_andB, asB, List.length_cons, List.length_nil, List.replicate, List.map, List.append_nil, List.cons_append, List.nil_append, setRefIt, ix_w, ix_c, ix_r, ix_t, pr_r, pr_t, eq_ii, ne_ii, appendS, lstOf, isNoneD, isND, id_eq, cmpI, gtI, leI, setOwnIt, true_and, wipeE, rng1, catD, negD, repD, ne_w, need_w, popRefM, pop_w, itemsD, Nat.reduceAdd, Nat.reduceSub, Int.reduceLT, lenV_lst, lenV_tup, lenV_str]
      exact ⟨ss', rfl, by rw [h1, hr]; simp; omega, h2, h3.up (by rw [hr]; omega)⟩)
  simp only [List.map_cons, List.map_nil, forS, setV, List.set_cons_succ, List.set_cons_zero, gv_bind, gv_seq, setS, Sh.retS, getV, List.getElem?_cons_succ, List.getElem?_cons_zero, gv_pure, mulD, addD, modD, Sh.intD, Sh.subD, Sh.divD, Sh.powD, arI, gv_guard, skipS, runB, Sh.envOf, par2S, par3S, gv_ifS, gv_eIf, gv_orB, gv_andB, asB, List.length_cons, List.length_nil, List.replicate, List.map, List.append_nil, List.cons_append, List.nil_append, setRefIt, ix_w, ix_c, ix_r, ix_t, pr_r, pr_t, eq_ii, ne_ii, appendS, lstOf, isNoneD, isND, id_eq, cmpI, gtI, leI, setOwnIt, true_and, wipeE, rng1, catD, negD, repD, ne_w, need_w, popRefM, pop_w, itemsD, Nat.reduceAdd, Nat.reduceSub, Int.reduceLT, lenV_lst, lenV_tup, lenV_str] at key ⊢
  exact ⟨by omega, key⟩
/-! ### kinds -/
def wl (b : Bool) : List D := if b then [.str "fail", .str "no", .str "yes"] else [.str "no", .str "yes"]
def kv (p : Str × Bool) : D × D := (.str p.1, .lst (wl p.2))
structure KOK (ks : List (Str × Bool)) : Prop where
  ne : ks ≠ []
  len : ks.length ≤ 6
  lab : ∀ p ∈ ks, p.1 ∈ lab
def putS (ks : List (Str × Bool)) (s : Str) (b : Bool) : List (Str × Bool) := if (ks.any fun p => decide (p.1 = s)) = true then ks.map (fun p => if p.1 = s then (p.1, b) else p) else ks ++ [(s, b)]
theorem dput_kv {s : Str} {b : Bool} {ks : List (Str × Bool)} : dputK (ks.map kv) (.inr s) (.str s) (.lst (wl b)) = (putS ks s b).map kv := by
  have hk : ∀ p : Str × Bool, (kv p).1.key? = some (.inr s) ↔ p.1 = s := fun p => by
    show some (Sum.inr p.1) = some (Sum.inr s) ↔ _
    constructor
    · intro h; cases h; rfl
    · intro h; rw [h]
  unfold dputK putS
  have ha : ((ks.map kv).any fun p => decide (p.1.key? = some (.inr s))) = ks.any fun p => decide (p.1 = s) := by
    rw [List.any_map]
    congr 1
    funext p
    show decide ((kv p).1.key? = some (.inr s)) = _
    simp only [hk]
  rw [ha]
  split
  · rw [List.map_map, List.map_map]
    congr 1
    funext p
    show (if (kv p).1.key? = some (.inr s) then ((kv p).1, D.lst (wl b)) else kv p) = kv (if p.1 = s then (p.1, b) else p)
    by_cases h : p.1 = s
    · rw [if_pos ((hk p).mpr h), if_pos h]
      rfl
    · rw [if_neg (fun q => h ((hk p).mp q)), if_neg h]
  · simp [kv]
theorem putS_len {s : Str} {b : Bool} {ks : List (Str × Bool)} : (putS ks s b).length ≤ ks.length + 1 := by
  unfold putS
  split <;> simp
theorem putS_ne {s : Str} {b : Bool} {ks : List (Str × Bool)} : putS ks s b ≠ [] := by
  unfold putS
  split
  · rename_i h
    intro q
    cases ks with
    | nil => simp at h
    | cons x r => simp at q
  · simp
theorem putS_lab {s : Str} {b : Bool} {ks : List (Str × Bool)} (hs : s ∈ lab) (h : ∀ p ∈ ks, p.1 ∈ lab) : ∀ p ∈ putS ks s b, p.1 ∈ lab := by
  unfold putS
  intro p hp
  split at hp
  · obtain ⟨x, hx, rfl⟩ := List.mem_map.mp hp
    split
    · exact h x hx
    · exact h x hx
  · rcases List.mem_append.mp hp with hp | hp
    · exact h p hp
    · have e : p = (s, b) := by simpa using hp
      rw [e]; exact hs
theorem setIt_dic {kvs : List (D × D)} {s : Str} {v : D} (h : kvs.length < 16777216) : setIt (.dic kvs) (.str s) v = some (.dic (dputK kvs (.inr s) (.str s) v)) := by
  show (if kvs.length < 16777216 then some (D.dic (dputK kvs (.inr s) (.str s) v)) else none) = _
  rw [if_pos h]
abbrev kinB : MS := seqS (setOwnIt 3 (eV 4) (eIf (andB (tB (eV 2)) (tB (e2 eqD (eCall f__law_take (lCons (eV 0) (lCons (eC (.int 3)) lNil))) (eC (.int 0))))) (eLst (lCons (eC (.str "fail")) (lCons (eC (.str "no")) (lCons (eC (.str "yes")) lNil)))) (eLst (lCons (eC (.str "no")) (lCons (eC (.str "yes")) lNil))))) skipS
theorem kinds_loop {cs : List Int} {R : Sto} : ∀ (ss : List Str) (ks : List (Str × Bool)) (T : Int) (st : Sto) (n x : Option D) (P : Fl × Sh.Env → Sto → Prop), ks.length + ss.length ≤ 6 → (∀ s ∈ ss, s ∈ lab) → (∀ p ∈ ks, p.1 ∈ lab) → Dw cs R T st → T + ss.length < 2 ^ 39 →
    (∀ (ks' : List (Str × Bool)) st' x, ks'.length ≤ 6 → (ss ≠ [] ∨ ks ≠ [] → ks' ≠ []) → (∀ p ∈ ks', p.1 ∈ lab) → Dw cs R (T + ss.length) st' → P (.nx, [some (.ref 1), n, some (.bl true), some (.dic (ks'.map kv)), x]) st') →
    (forS (setV 4) kinB (ss.map .str) [some (.ref 1), n, some (.bl true), some (.dic (ks.map kv)), x]).gives st P
  | [], ks, T, st, n, x, P, hl, _, hk, hd, _, h => h ks st x (by simpa using hl) (by simp) hk (hd.up (by simp))
  | s :: ss, ks, T, st, n, x, P, hl, hs, hk, hd, hT, h => by
    have hl' : ks.length + (ss.length + 1) ≤ 6 := by simpa using hl
    have hT' : T + (ss.length + 1) < 2 ^ 39 := by simpa using hT
    have step : ∀ (b : Bool) st', Dw cs R (T + 1) st' → (ofO (setIt (.dic (ks.map kv)) (.str s) (.lst (wl b)))).gives st' fun c st' => (forS (setV 4) kinB (ss.map .str) [some (.ref 1), n, some (.bl true), some c, some (.str s)]).gives st' P := fun b st' hd' => by
      rw [setIt_dic (by rw [List.length_map]; omega), dput_kv]
      show (forS (setV 4) kinB (ss.map .str) [some (.ref 1), n, some (.bl true), some (.dic ((putS ks s b).map kv)), some (.str s)]).gives st' P
      have hpl := putS_len (s := s) (b := b) (ks := ks)
      refine kinds_loop ss (putS ks s b) (T + 1) st' n _ P (by omega) (fun x hx => hs x (List.mem_cons_of_mem _ hx)) (putS_lab (hs s List.mem_cons_self) hk) hd' (by omega) fun ks' st2 x h1 h2 h3 h4 => ?_
      exact h ks' st2 x h1 (fun _ => h2 (.inr putS_ne)) h3 (h4.up (by simp; omega))
    simp only [List.map_cons, List.map_nil, forS, setV, List.set_cons_succ, List.set_cons_zero, gv_bind, gv_seq, setS, Sh.retS, getV, List.getElem?_cons_succ, List.getElem?_cons_zero, gv_pure, mulD, addD, modD, Sh.intD, Sh.subD, Sh.divD, Sh.powD, arI, gv_guard, skipS, runB, Sh.envOf, par2S, par3S, gv_ifS, gv_eIf, gv_orB, gv_andB, asB, List.length_cons, List.length_nil, List.replicate, List.map, List.append_nil, List.cons_append, List.nil_append, setRefIt, ix_w, ix_c, ix_r, ix_t, pr_r, pr_t, eq_ii, ne_ii, appendS, lstOf, isNoneD, isND, id_eq, cmpI, gtI, leI, setOwnIt, true_and, wipeE, rng1, catD, negD, repD, ne_w, need_w, popRefM, pop_w, itemsD, Nat.reduceAdd, Nat.reduceSub, Int.reduceLT, lenV_lst, lenV_tup, lenV_str]
    refine ⟨fun _ => ?_, fun e => by cases e⟩
    refine M.gives_mono (take_g hd (by omega) (n := 3) (by decide) (by decide)) fun d st' ⟨i, e, _, _, hd'⟩ => ?_
    subst e
    simp only [List.map_cons, List.map_nil, forS, setV, List.set_cons_succ, List.set_cons_zero, gv_bind, gv_seq, setS, Sh.retS, getV, List.getElem?_cons_succ, List.getElem?_cons_zero, gv_pure, mulD, addD, modD, Sh.intD, Sh.subD, Sh.divD, Sh.powD, arI, gv_guard, skipS, runB, Sh.envOf, par2S, par3S, gv_ifS, gv_eIf, gv_orB, gv_andB, asB, List.length_cons, List.length_nil, List.replicate, List.map, List.append_nil, List.cons_append, List.nil_append, setRefIt, ix_w, ix_c, ix_r, ix_t, pr_r, pr_t, eq_ii, ne_ii, appendS, lstOf, isNoneD, isND, id_eq, cmpI, gtI, leI, setOwnIt, true_and, wipeE, rng1, catD, negD, repD, ne_w, need_w, popRefM, pop_w, itemsD, Nat.reduceAdd, Nat.reduceSub, Int.reduceLT, lenV_lst, lenV_tup, lenV_str]
    exact ⟨fun _ => step true st' hd', fun _ => step false st' hd'⟩
theorem kinds_g {cs : List Int} {R : Sto} {T : Int} {st : Sto} (h : Dw cs R T st) (hT : T + 20 < 2 ^ 39) : (f__law_kinds [.ref 1, .int 4, .bl true]).gives st fun d st' => ∃ ks, d = .dic (ks.map kv) ∧ KOK ks ∧ Dw cs R (T + 20) st' := by
  unfold f__law_kinds b__law_kinds
  simp only [List.map_cons, List.map_nil, forS, setV, List.set_cons_succ, List.set_cons_zero, gv_bind, gv_seq, setS, Sh.retS, getV, List.getElem?_cons_succ, List.getElem?_cons_zero, gv_pure, mulD, addD, modD, Sh.intD, Sh.subD, Sh.divD, Sh.powD, arI, gv_guard, skipS, runB, Sh.envOf, par2S, par3S, gv_ifS, gv_eIf, gv_orB, gv_andB, asB, List.length_cons, List.length_nil, List.replicate, List.map, List.append_nil, List.cons_append, List.nil_append, setRefIt, ix_w, ix_c, ix_r, ix_t, pr_r, pr_t, eq_ii, ne_ii, appendS, lstOf, isNoneD, isND, id_eq, cmpI, gtI, leI, setOwnIt, true_and, wipeE, rng1, catD, negD, repD, ne_w, need_w, popRefM, pop_w, itemsD, Nat.reduceAdd, Nat.reduceSub, Int.reduceLT, lenV_lst, lenV_tup, lenV_str]
  refine M.gives_mono (take_g h (by omega) (n := 4 - 1) (by decide) (by decide)) fun d st1 ⟨i, e, i0, i1, h1⟩ => ?_
  subst e
  simp only [List.map_cons, List.map_nil, forS, setV, List.set_cons_succ, List.set_cons_zero, gv_bind, gv_seq, setS, Sh.retS, getV, List.getElem?_cons_succ, List.getElem?_cons_zero, gv_pure, mulD, addD, modD, Sh.intD, Sh.subD, Sh.divD, Sh.powD, arI, gv_guard, skipS, runB, Sh.envOf, par2S, par3S, gv_ifS, gv_eIf, gv_orB, gv_andB, asB, List.length_cons, List.length_nil, List.replicate, List.map, List.append_nil, List.cons_append, List.nil_append, setRefIt, ix_w, ix_c, ix_r, ix_t, pr_r, pr_t, eq_ii, ne_ii, appendS, lstOf, isNoneD, isND, id_eq, cmpI, gtI, leI, setOwnIt, true_and, wipeE, rng1, catD, negD, repD, ne_w, need_w, popRefM, pop_w, itemsD, Nat.reduceAdd, Nat.reduceSub, Int.reduceLT, lenV_lst, lenV_tup, lenV_str]
  refine M.gives_mono (labels_g h1 (2 + i) (by omega) (by omega) (by omega)) fun d st2 ⟨ss, e, hl, hs, h2⟩ => ?_
  subst e
  have hlen : (sortS ss).length = ss.length := len_sortS
  rw [Sh.sorted_strs (by omega)]
  simp only [List.map_cons, List.map_nil, forS, setV, List.set_cons_succ, List.set_cons_zero, gv_bind, gv_seq, setS, Sh.retS, getV, List.getElem?_cons_succ, List.getElem?_cons_zero, gv_pure, mulD, addD, modD, Sh.intD, Sh.subD, Sh.divD, Sh.powD, arI, gv_guard, skipS, runB, Sh.envOf, par2S, par3S, gv_ifS, gv_eIf, gv_orB, gv_andB, asB, List.length_cons, List.length_nil, List.replicate, List.map, List.append_nil, List.cons_append, List.nil_append, setRefIt, ix_w, ix_c, ix_r, ix_t, pr_r, pr_t, eq_ii, ne_ii, appendS, lstOf, isNoneD, isND, id_eq, cmpI, gtI, leI, setOwnIt, true_and, wipeE, rng1, catD, negD, repD, ne_w, need_w, popRefM, pop_w, itemsD, Nat.reduceAdd, Nat.reduceSub, Int.reduceLT, lenV_lst, lenV_tup, lenV_str]
  refine kinds_loop (sortS ss) [] (T + 1 + (2 + i)) st2 _ _ _ (by rw [hlen]; simp; omega) (fun s h => hs s (mem_sortS.mp h)) (by simp) h2 (by rw [hlen]; omega) fun ks' st' x h3 h4 h5 h6 => ?_
  simp only [List.map_cons, List.map_nil, forS, setV, List.set_cons_succ, List.set_cons_zero, gv_bind, gv_seq, setS, Sh.retS, getV, List.getElem?_cons_succ, List.getElem?_cons_zero, gv_pure, mulD, addD, modD, Sh.intD, Sh.subD, Sh.divD, Sh.powD, arI, gv_guard, skipS, runB, Sh.envOf, par2S, par3S, gv_ifS, gv_eIf, gv_orB, gv_andB, asB, List.length_cons, List.length_nil, List.replicate, List.map, List.append_nil, List.cons_append, List.nil_append, setRefIt, ix_w, ix_c, ix_r, ix_t, pr_r, pr_t, eq_ii, ne_ii, appendS, lstOf, isNoneD, isND, id_eq, cmpI, gtI, leI, setOwnIt, true_and, wipeE, rng1, catD, negD, repD, ne_w, need_w, popRefM, pop_w, itemsD, Nat.reduceAdd, Nat.reduceSub, Int.reduceLT, lenV_lst, lenV_tup, lenV_str]
  refine ⟨ks', rfl, ⟨h4 (.inl fun e => ?_), h3, h5⟩, h6.up (by rw [hlen]; omega)⟩
  have : (sortS ss).length = 0 := by rw [e]; rfl
  omega
end K60
namespace K60
open PySem PySem.Spec PyProof.Rows L2 Sh
def Itm (b k : Nat) (d : D) : Prop := d.g = true ∧ d.bk ≤ b ∧ d.dp ≤ k
def itB (b k : Nat) (d : D) : Bool := d.g && decide (d.bk ≤ b) && decide (d.dp ≤ k)
theorem itB_all {b k : Nat} {xs : List D} (h : xs.all (itB b k) = true) : ∀ d ∈ xs, Itm b k d := fun d hd => by
  have := List.all_eq_true.mp h d hd
  unfold itB at this
  simp only [Bool.and_eq_true, decide_eq_true_eq] at this
  exact ⟨this.1.1, this.1.2, this.2⟩
theorem Itm.up {b b' k k' : Nat} {d : D} (h : Itm b k d) (h1 : b ≤ b') (h2 : k ≤ k') : Itm b' k' d := ⟨h.1, Nat.le_trans h.2.1 h1, Nat.le_trans h.2.2 h2⟩
def oddL : List D := [.non, .bl true, .bl false, .int 0, .int 1, .int (-1), .int (10 ^ 20), .str "", .str "a", .str "yes", .str "deed", .tup [], .tup [.str "yes"], .tup [.str "over"], .lst [], .dic [], .tup [.tup []],
  .tup [.str "look", .str "a"], .tup [.str "do", .tup [.str "yes"]], .lst [.str "a"], .dic [(.str "a", .int 1)], .tup [.str "a", .bl true], .tup [.tup [], .tup []]]
theorem odd_ok : oddL.all (itB 20 3) = true := by decide +kernel
theorem odd_run {st : Sto} {P : D → Sto → Prop} (h : (f__law_pick [.ref 1, .lst oddL]).gives st P) : (f__law_odd [.ref 1]).gives st P := by
  unfold f__law_odd b__law_odd
  simp only [List.map_cons, List.map_nil, forS, setV, List.set_cons_succ, List.set_cons_zero, gv_bind, gv_seq, setS, Sh.retS, getV, List.getElem?_cons_succ, List.getElem?_cons_zero, gv_pure, mulD, addD, modD, Sh.intD, Sh.subD, Sh.divD, Sh.powD, arI, gv_guard, skipS, runB, Sh.envOf, par2S, par3S, gv_ifS, gv_eIf, gv_orB, gv_andB, asB, List.length_cons, List.length_nil, List.replicate, List.map, List.append_nil, List.cons_append, List.nil_append, setRefIt, ix_w, ix_c, ix_r, ix_t, pr_r, pr_t, eq_ii, ne_ii, appendS, lstOf, isNoneD, isND, id_eq, cmpI, gtI, leI, setOwnIt, true_and, wipeE, rng1, catD, negD, repD, ne_w, need_w, popRefM, pop_w, itemsD, Nat.reduceAdd, Nat.reduceSub, Int.reduceLT, lenV_lst, lenV_tup, lenV_str, dispD]
  refine ⟨by decide +kernel, by decide +kernel, ?_⟩
  exact ⟨by decide, h⟩
theorem odd_g {cs : List Int} {R : Sto} {T : Int} {st : Sto} (h : Dw cs R T st) (hT : T < 2 ^ 39) : (f__law_odd [.ref 1]).gives st fun d st' => Itm 20 3 d ∧ Dw cs R (T + 1) st' :=
  odd_run (M.gives_mono (pick_g h hT (xs := oddL) (by simp [oddL]) (by decide)) fun d st' ⟨hm, hd⟩ => ⟨itB_all odd_ok d hm, hd⟩)
abbrev names (ks : List (Str × Bool)) : List Str := ks.map (·.1)
theorem keys_kv (ks : List (Str × Bool)) : keysOf (ks.map kv) = (names ks).map .str := by
  unfold keysOf names
  rw [List.map_map, List.map_map]
  rfl
theorem lab_ok : ∀ s ∈ lab, okS s = true ∧ s.length ≤ 8 := by
  have h : (lab.all fun s => okS s && decide (s.length ≤ 8)) = true := by decide +kernel
  intro s hs
  have := List.all_eq_true.mp h s hs
  simp only [Bool.and_eq_true, decide_eq_true_eq] at this
  exact this
theorem sort_kv {ks : List (Str × Bool)} (hk : KOK ks) {st : Sto} {P : D → Sto → Prop} : (sortedD (.dic (ks.map kv))).gives st P ↔ P (.lst ((sortS (names ks)).map .str)) st :=
  Sh.sorted_dic (keys_kv ks) (by rw [List.length_map]; have := hk.len; omega)
theorem first_kv {ks : List (Str × Bool)} (hk : KOK ks) : ∃ s ∈ names ks, s ∈ lab ∧ ∀ (st : Sto) (P : D → Sto → Prop), P (.str s) st → (ixD (.lst ((sortS (names ks)).map .str)) (.int 0)).gives st P := by
  have hl : (sortS (names ks)).length = ks.length := by rw [len_sortS, List.length_map]
  have hp : 0 < ks.length := List.length_pos_iff.mpr hk.ne
  obtain ⟨d, hd, hm⟩ := atI_mem (xs := (sortS (names ks)).map D.str) (i := 0) (by decide) (by rw [List.length_map, hl]; omega)
  obtain ⟨s, hs, rfl⟩ := List.mem_map.mp hm
  have hs2 := mem_sortS.mp hs
  obtain ⟨p, hp2, e⟩ := List.mem_map.mp hs2
  refine ⟨s, hs2, by rw [← e]; exact hk.lab p hp2, fun st P h => ?_⟩
  show (ofO (atI ((sortS (names ks)).map D.str) 0)).gives st P
  rw [hd]
  exact h
theorem leaf_g {cs : List Int} {R : Sto} {T : Int} {st : Sto} {ks : List (Str × Bool)} (hk : KOK ks) (h : Dw cs R T st) (hT : T < 2 ^ 39) : (f__law_leaf [.ref 1, .dic (ks.map kv)]).gives st fun d st' => Itm 20 1 d ∧ Dw cs R (T + 1) st' := by
  unfold f__law_leaf b__law_leaf
  obtain ⟨s, _, hs, hf⟩ := first_kv hk
  simp only [List.map_cons, List.map_nil, forS, setV, List.set_cons_succ, List.set_cons_zero, gv_bind, gv_seq, setS, Sh.retS, getV, List.getElem?_cons_succ, List.getElem?_cons_zero, gv_pure, mulD, addD, modD, Sh.intD, Sh.subD, Sh.divD, Sh.powD, arI, gv_guard, skipS, runB, Sh.envOf, par2S, par3S, gv_ifS, gv_eIf, gv_orB, gv_andB, asB, List.length_cons, List.length_nil, List.replicate, List.map, List.append_nil, List.cons_append, List.nil_append, setRefIt, ix_w, ix_c, ix_r, ix_t, pr_r, pr_t, eq_ii, ne_ii, appendS, lstOf, isNoneD, isND, id_eq, cmpI, gtI, leI, setOwnIt, true_and, wipeE, rng1, catD, negD, repD, ne_w, need_w, popRefM, pop_w, itemsD, Nat.reduceAdd, Nat.reduceSub, Int.reduceLT, lenV_lst, lenV_tup, lenV_str]
  rw [sort_kv hk]
  refine hf _ _ ?_
  refine M.gives_mono (pick_g h hT (by simp) (show (5 : Nat) < 1073741824 by decide)) fun d st' ⟨hm, hd⟩ => ⟨?_, hd⟩
  have h4 : ([.tup [.str "told", .bl true], .tup [.str "told", .bl false], .tup [.str "told", .bl true], .tup [.str "over"]] : List D).all (itB 20 1) = true := by decide +kernel
  have hm' : d ∈ ([.tup [.str "told", .bl true], .tup [.str "told", .bl false], .tup [.str "told", .bl true], .tup [.str "over"]] : List D) ∨ d = .tup [.str "failed", .str s] := by
    simp only [List.mem_cons, List.not_mem_nil, or_false] at hm ⊢
    rcases hm with h | h | h | h | h <;> simp [h]
  rcases hm' with hm' | rfl
  · exact itB_all h4 d hm'
  · obtain ⟨o, l⟩ := lab_ok s hs
    refine ⟨?_, ?_, ?_⟩
    · show (okS "failed" && (okS s && true)) = true
      rw [o]
      decide +kernel
    · show (("failed" : Str).length + 1 + (s.length + 1 + 0)) ≤ 20
      have : ("failed" : Str).length = 6 := by decide +kernel
      omega
    · show max 0 (max 0 0) + 1 ≤ 1
      decide
/-! ### trees -/
def tb : Nat → Nat
  | 0 => 20
  | d + 1 => 3 * (tb d + 8) + 20
def tc : Nat → Nat
  | 0 => 2
  | d + 1 => 6 + 3 * (1 + tc d)
def DeedOk (ks : List (Str × Bool)) (d : D) : Prop := d = .non ∨ ∃ s ∈ names ks, d = .str s
theorem get_kv {ks : List (Str × Bool)} {s : Str} (h : s ∈ names ks) : ∃ b, dgetK (ks.map kv) (.inr s) = some (.lst (wl b)) := by
  induction ks with
  | nil => simp at h
  | cons p ks ih =>
    rw [List.map_cons]
    by_cases e : p.1 = s
    · exact ⟨p.2, dget_eq (by show some (Sum.inr p.1) = _; rw [e])⟩
    · have h' : s ∈ names ks := by
        rw [show names (p :: ks) = p.1 :: names ks from rfl] at h
        exact (List.mem_cons.mp h).resolve_left fun q => e q.symm
      obtain ⟨b, hb⟩ := ih h'
      refine ⟨b, ?_⟩
      show dgetK ((D.str p.1, D.lst (wl p.2)) :: ks.map kv) (.inr s) = _
      rw [dget_ne (show ¬ (D.str p.1).key? = some (.inr s) from fun q => e (by cases q; rfl))]
      exact hb
abbrev treeB (r : List D → M D) : MS := seqS (setS 9 (eIf (tB (eV 6)) (eV 7) (eCall f__law_pick (lCons (eV 0) (lCons (e2 catD (eV 5) (eLst (lCons (eC .non) lNil))) lNil)))))
  (seqS (appendS 8 (eTup (lCons (eV 4) (lCons (eCall r (lCons (eV 0) (lCons (eV 1) (lCons (e2 subD (eV 2) (eC (.int 1))) (lCons (eV 9) lNil))))) lNil)))) skipS)
def wordOk (d : D) : Prop := ∃ w : Str, d = .str w ∧ okS w = true ∧ w.length ≤ 4
theorem wl_ok (b : Bool) : ∀ d ∈ wl b, wordOk d := by
  have h1 : okS "fail" = true := by decide +kernel
  have h2 : okS "no" = true := by decide +kernel
  have h3 : okS "yes" = true := by decide +kernel
  have l1 : ("fail" : Str).length ≤ 4 := by decide +kernel
  have l2 : ("no" : Str).length ≤ 4 := by decide +kernel
  have l3 : ("yes" : Str).length ≤ 4 := by decide +kernel
  intro d hd
  cases b
  · simp only [wl, Bool.false_eq_true, if_false, List.mem_cons, List.not_mem_nil, or_false] at hd
    rcases hd with rfl | rfl
    · exact ⟨_, rfl, h2, l2⟩
    · exact ⟨_, rfl, h3, l3⟩
  · simp only [wl, if_true, List.mem_cons, List.not_mem_nil, or_false] at hd
    rcases hd with rfl | rfl | rfl
    · exact ⟨_, rfl, h1, l1⟩
    · exact ⟨_, rfl, h2, l2⟩
    · exact ⟨_, rfl, h3, l3⟩
theorem wl_len (b : Bool) : (wl b).length ≤ 3 := by cases b <;> simp [wl]
theorem pair_ok {b k : Nat} {w x : D} (hw : wordOk w) (hx : Itm b k x) : Itm (b + 6) (k + 1) (.tup [w, x]) := by
  obtain ⟨s, rfl, o, l⟩ := hw
  refine ⟨?_, ?_, ?_⟩
  · show (okS s && (x.g && true)) = true
    rw [o, hx.1]; rfl
  · show s.length + 1 + (x.bk + 1 + 0) ≤ b + 6
    have := hx.2.1
    omega
  · show max 0 (max x.dp 0) + 1 ≤ k + 1
    have := hx.2.2
    omega
/-- all of ds are good, together no more than b, none deeper than k -/
structure ItmL (b k : Nat) (ds : List D) : Prop where
  g : gL ds = true
  bk : bkL ds ≤ b
  dp : dpL ds ≤ k
theorem gL_app : ∀ {a b : List D}, gL (a ++ b) = (gL a && gL b)
  | [], b => rfl
  | x :: a, b => by
    show (x.g && gL (a ++ b)) = (x.g && gL a && gL b)
    rw [gL_app, Bool.and_assoc]
theorem bkL_app : ∀ {a b : List D}, bkL (a ++ b) = bkL a + bkL b
  | [], b => by simp [bkL]
  | x :: a, b => by
    show x.bk + 1 + bkL (a ++ b) = x.bk + 1 + bkL a + bkL b
    rw [bkL_app]
    omega
theorem dpL_app : ∀ {a b : List D}, dpL (a ++ b) = max (dpL a) (dpL b)
  | [], b => by simp [dpL]
  | x :: a, b => by
    show max x.dp (dpL (a ++ b)) = max (max x.dp (dpL a)) (dpL b)
    rw [dpL_app]
    omega
theorem ItmL.snoc {b c k : Nat} {ds : List D} {x : D} (h : ItmL b k ds) (hx : Itm c k x) : ItmL (b + c + 1) k (ds ++ [x]) := by
  refine ⟨?_, ?_, ?_⟩
  · rw [gL_app, h.g]
    show (true && (x.g && true)) = true
    rw [hx.1]; rfl
  · rw [bkL_app]
    show bkL ds + (x.bk + 1 + 0) ≤ _
    have := h.bk
    have := hx.2.1
    omega
  · rw [dpL_app]
    show max (dpL ds) (max x.dp 0) ≤ _
    have := h.dp
    have := hx.2.2
    omega
end K60
namespace K60
open PySem PySem.Spec PyProof.Rows L2 Sh
theorem deed_pick {cs : List Int} {R : Sto} {T : Int} {st : Sto} {ks : List (Str × Bool)} (hk : KOK ks) (h : Dw cs R T st) (hT : T < 2 ^ 39) {xs : List Str} (hx : ∀ s ∈ xs, s ∈ names ks) (hl : xs.length ≤ 1000) : (f__law_pick [.ref 1, .lst (xs.map .str ++ [.non])]).gives st fun d st' => DeedOk ks d ∧ Dw cs R (T + 1) st' :=
  M.gives_mono (pick_g h hT (by simp) (by simp; omega)) fun d st' ⟨hm, hd⟩ => ⟨by
    rcases List.mem_append.mp hm with hm | hm
    · obtain ⟨s, hs, rfl⟩ := List.mem_map.mp hm
      exact .inr ⟨s, hx s hs, rfl⟩
    · exact .inl (by simpa using hm), hd⟩
theorem tree_loop {cs : List Int} {R : Sto} {ks : List (Str × Bool)} (hk : KOK ks) {r : List D → M D} {dn : Nat} {deed : Option D} {ev : Bool} {bel : D} (hb : DeedOk ks bel)
    (hr : ∀ (T : Int) (st : Sto) (x : D), DeedOk ks x → Dw cs R T st → T + tc dn < 2 ^ 39 → (r [.ref 1, .dic (ks.map kv), .int dn, x]).gives st fun y st' => Itm (tb dn) (3 * dn + 1) y ∧ Dw cs R (T + tc dn) st') :
    ∀ (ws ds : List D) (b : Nat) (T : Int) (st : Sto) (x4 x9 : Option D) (P : Fl × Sh.Env → Sto → Prop), (∀ w ∈ ws, wordOk w) → ds.length + ws.length ≤ 3 → ItmL b (3 * dn + 2) ds → Dw cs R T st → T + ws.length * (1 + tc dn) < 2 ^ 39 →
      (∀ ds' st' x4 x9, ItmL (b + ws.length * (tb dn + 7)) (3 * dn + 2) ds' → Dw cs R (T + ws.length * (1 + tc dn)) st' → P (.nx, [some (.ref 1), some (.dic (ks.map kv)), some (.int ((dn : Int) + 1)), deed, x4, some (.lst ((sortS (names ks)).map .str)), some (.bl ev), some bel, some (.lst ds'), x9]) st') →
      (forS (setV 4) (treeB r) ws [some (.ref 1), some (.dic (ks.map kv)), some (.int ((dn : Int) + 1)), deed, x4, some (.lst ((sortS (names ks)).map .str)), some (.bl ev), some bel, some (.lst ds), x9]).gives st P
  | [], ds, b, T, st, x4, x9, P, _, _, hd, h, _, fin => fin ds st x4 x9 (by simpa using hd) (by simpa using h)
  | w :: ws, ds, b, T, st, x4, x9, P, hw, hl, hd, h, hT, fin => by
    have e1 : (((w :: ws).length : Nat) : Int) = ws.length + 1 := by simp
    rw [e1, Int.add_mul] at hT
    have hl' : ds.length + (ws.length + 1) ≤ 3 := by simpa using hl
    have e0 : ((dn : Int) + 1) - 1 = dn := by omega
    have rest : ∀ (x : D) st', DeedOk ks x → Dw cs R (T + 1) st' → (appendS 8 (eTup (lCons (eV 4) (lCons (eCall r (lCons (eV 0) (lCons (eV 1) (lCons (e2 subD (eV 2) (eC (.int 1))) (lCons (eV 9) lNil))))) lNil))) [some (.ref 1), some (.dic (ks.map kv)), some (.int ((dn : Int) + 1)), deed, some w, some (.lst ((sortS (names ks)).map .str)), some (.bl ev), some bel, some (.lst ds), some x]).gives st' fun r1 st2 => (match r1.1 with | .nx => skipS r1.2 | _ => pure r1 : M (Fl × Sh.Env)).gives st2 fun r2 st3 => (match r2.1 with | .nx => forS (setV 4) (treeB r) ws r2.2 | .ct => forS (setV 4) (treeB r) ws r2.2 | .bk => pure (.nx, r2.2) | .rt d => pure (.rt d, r2.2) : M (Fl × Sh.Env)).gives st3 P := fun x st' hx h' => by
      have hr' := hr (T + 1) st' x hx h' (by have : (0 : Int) ≤ ws.length * (1 + tc dn) := Int.mul_nonneg (by omega) (by omega); omega)
      simp only [List.map_cons, List.map_nil, forS, setV, List.set_cons_succ, List.set_cons_zero, gv_bind, gv_seq, setS, Sh.retS, getV, List.getElem?_cons_succ, List.getElem?_cons_zero, gv_pure, mulD, addD, modD, Sh.intD, Sh.subD, Sh.divD, Sh.powD, arI, gv_guard, skipS, runB, Sh.envOf, par2S, par3S, gv_ifS, gv_eIf, gv_orB, gv_andB, asB, List.length_cons, List.length_nil, List.replicate, List.map, List.append_nil, List.cons_append, List.nil_append, setRefIt, ix_w, ix_c, ix_r, ix_t, pr_r, pr_t, eq_ii, ne_ii, appendS, lstOf, isNoneD, isND, id_eq, cmpI, gtI, leI, setOwnIt, true_and, wipeE, rng1, catD, negD, repD, ne_w, need_w, popRefM, pop_w, itemsD, Nat.reduceAdd, Nat.reduceSub, Int.reduceLT, lenV_lst, lenV_tup, lenV_str, e0]
      refine M.gives_mono hr' fun y st2 ⟨hy, h2⟩ => ?_
      refine ⟨by omega, ?_⟩
      have hp := pair_ok (hw w List.mem_cons_self) hy
      refine tree_loop hk hb hr ws (ds ++ [.tup [w, y]]) (b + (tb dn + 6) + 1) (T + 1 + tc dn) st2 _ _ P (fun z hz => hw z (List.mem_cons_of_mem _ hz)) (by simp; omega) (hd.snoc (hp.up (Nat.le_refl _) (by omega))) h2 (by omega) fun ds' st3 y4 y9 q1 q2 => ?_
      refine fin ds' st3 y4 y9 ⟨q1.g, ?_, q1.dp⟩ (q2.up (by rw [e1, Int.add_mul]; omega))
      have := q1.bk
      have e3 : (w :: ws).length * (tb dn + 7) = ws.length * (tb dn + 7) + (tb dn + 7) := by rw [List.length_cons, Nat.succ_mul]
      omega
    have hpos : (0 : Int) ≤ ws.length * (1 + tc dn) := Int.mul_nonneg (by omega) (by omega)
    cases ev
    · have hp := deed_pick hk h (by omega) (xs := sortS (names ks)) (fun s hs => mem_sortS.mp hs) (by rw [len_sortS, List.length_map]; have := hk.len; omega)
      simp only [List.map_cons, List.map_nil, forS, setV, List.set_cons_succ, List.set_cons_zero, gv_bind, gv_seq, setS, Sh.retS, getV, List.getElem?_cons_succ, List.getElem?_cons_zero, gv_pure, mulD, addD, modD, Sh.intD, Sh.subD, Sh.divD, Sh.powD, arI, gv_guard, skipS, runB, Sh.envOf, par2S, par3S, gv_ifS, gv_eIf, gv_orB, gv_andB, asB, List.length_cons, List.length_nil, List.replicate, List.map, List.append_nil, List.cons_append, List.nil_append, setRefIt, ix_w, ix_c, ix_r, ix_t, pr_r, pr_t, eq_ii, ne_ii, appendS, lstOf, isNoneD, isND, id_eq, cmpI, gtI, leI, setOwnIt, true_and, wipeE, rng1, catD, negD, repD, ne_w, need_w, popRefM, pop_w, itemsD, Nat.reduceAdd, Nat.reduceSub, Int.reduceLT, lenV_lst, lenV_tup, lenV_str]
      refine ⟨fun e => (by cases e), fun _ => ⟨?_, ?_⟩⟩
      · rw [List.length_map, len_sortS, List.length_map]; have := hk.len; omega
      · refine M.gives_mono hp fun x st' ⟨hx, h'⟩ => ?_
        have := rest x st' hx h'
        simp only [List.map_cons, List.map_nil, forS, setV, List.set_cons_succ, List.set_cons_zero, gv_bind, gv_seq, setS, Sh.retS, getV, List.getElem?_cons_succ, List.getElem?_cons_zero, gv_pure, mulD, addD, modD, Sh.intD, Sh.subD, Sh.divD, Sh.powD, arI, gv_guard, skipS, runB, Sh.envOf, par2S, par3S, gv_ifS, gv_eIf, gv_orB, gv_andB, asB, List.length_cons, List.length_nil, List.replicate, List.map, List.append_nil, List.cons_append, List.nil_append, setRefIt, ix_w, ix_c, ix_r, ix_t, pr_r, pr_t, eq_ii, ne_ii, appendS, lstOf, isNoneD, isND, id_eq, cmpI, gtI, leI, setOwnIt, true_and, wipeE, rng1, catD, negD, repD, ne_w, need_w, popRefM, pop_w, itemsD, Nat.reduceAdd, Nat.reduceSub, Int.reduceLT, lenV_lst, lenV_tup, lenV_str] at this
        exact this
    · simp only [List.map_cons, List.map_nil, forS, setV, List.set_cons_succ, List.set_cons_zero, gv_bind, gv_seq, setS, Sh.retS, getV, List.getElem?_cons_succ, List.getElem?_cons_zero, gv_pure, mulD, addD, modD, Sh.intD, Sh.subD, Sh.divD, Sh.powD, arI, gv_guard, skipS, runB, Sh.envOf, par2S, par3S, gv_ifS, gv_eIf, gv_orB, gv_andB, asB, List.length_cons, List.length_nil, List.replicate, List.map, List.append_nil, List.cons_append, List.nil_append, setRefIt, ix_w, ix_c, ix_r, ix_t, pr_r, pr_t, eq_ii, ne_ii, appendS, lstOf, isNoneD, isND, id_eq, cmpI, gtI, leI, setOwnIt, true_and, wipeE, rng1, catD, negD, repD, ne_w, need_w, popRefM, pop_w, itemsD, Nat.reduceAdd, Nat.reduceSub, Int.reduceLT, lenV_lst, lenV_tup, lenV_str]
      refine ⟨fun _ => ?_, fun e => by cases e⟩
      have := rest bel st hb (h.up (by omega))
      simp only [List.map_cons, List.map_nil, forS, setV, List.set_cons_succ, List.set_cons_zero, gv_bind, gv_seq, setS, Sh.retS, getV, List.getElem?_cons_succ, List.getElem?_cons_zero, gv_pure, mulD, addD, modD, Sh.intD, Sh.subD, Sh.divD, Sh.powD, arI, gv_guard, skipS, runB, Sh.envOf, par2S, par3S, gv_ifS, gv_eIf, gv_orB, gv_andB, asB, List.length_cons, List.length_nil, List.replicate, List.map, List.append_nil, List.cons_append, List.nil_append, setRefIt, ix_w, ix_c, ix_r, ix_t, pr_r, pr_t, eq_ii, ne_ii, appendS, lstOf, isNoneD, isND, id_eq, cmpI, gtI, leI, setOwnIt, true_and, wipeE, rng1, catD, negD, repD, ne_w, need_w, popRefM, pop_w, itemsD, Nat.reduceAdd, Nat.reduceSub, Int.reduceLT, lenV_lst, lenV_tup, lenV_str] at this
      exact this
end K60
namespace K60
open PySem PySem.Spec PyProof.Rows L2 Sh
theorem eq_in {i : Int} {st : Sto} {P : D → Sto → Prop} : (isNoneD id .non .non).gives st P ↔ P (.bl true) st := Iff.rfl
theorem rep_names {xs : List Str} : ∀ n : Nat, (List.replicate n (xs.map D.str)).flatten = ((List.replicate n xs).flatten).map D.str
  | 0 => rfl
  | n + 1 => by
    rw [List.replicate_succ, List.replicate_succ, List.flatten_cons, List.flatten_cons, rep_names n, List.map_append]
theorem mem_rep {xs : List Str} {s : Str} : ∀ n : Nat, s ∈ (List.replicate n xs).flatten → s ∈ xs
  | 0, h => by simp at h
  | n + 1, h => by
    rw [List.replicate_succ, List.flatten_cons] at h
    exact (List.mem_append.mp h).elim id (mem_rep n)
theorem len_rep {xs : List Str} : ∀ n : Nat, ((List.replicate n xs).flatten).length = n * xs.length
  | 0 => by simp
  | n + 1 => by
    rw [List.replicate_succ, List.flatten_cons, List.length_append, len_rep n, Nat.succ_mul]
    omega
theorem tree_g {cs : List Int} {R : Sto} {ks : List (Str × Bool)} (hk : KOK ks) : ∀ (dn n : Nat) (T : Int) (st : Sto) (x : D), dn < n → DeedOk ks x → Dw cs R T st → T + tc dn < 2 ^ 39 →
    (f__law_tree n [.ref 1, .dic (ks.map kv), .int dn, x]).gives st fun y st' => Itm (tb dn) (3 * dn + 1) y ∧ Dw cs R (T + tc dn) st'
  | dn, 0, T, st, x, hn, _, _, _ => by omega
  | dn, n + 1, T, st, x, hn, hx, h, hT => by
    unfold f__law_tree b__law_tree
    have hleaf := M.gives_mono (leaf_g hk h (by omega)) (Q := fun y st' => Itm (tb dn) (3 * dn + 1) y ∧ Dw cs R (T + tc dn) st') fun y st' ⟨hy, h'⟩ => ⟨hy.up (by cases dn with | zero => exact Nat.le_refl _ | succ k => show 20 ≤ 3 * (tb k + 8) + 20; omega) (by omega), h'.up (by cases dn with | zero => show T + 1 ≤ T + 2; omega | succ k => show T + 1 ≤ T + ((6 + 3 * (1 + tc k) : Nat) : Int); omega)⟩
    rcases hx with rfl | ⟨s, hs, rfl⟩
    · simp only [List.map_cons, List.map_nil, forS, setV, List.set_cons_succ, List.set_cons_zero, gv_bind, gv_seq, setS, Sh.retS, getV, List.getElem?_cons_succ, List.getElem?_cons_zero, gv_pure, mulD, addD, modD, Sh.intD, Sh.subD, Sh.divD, Sh.powD, arI, gv_guard, skipS, runB, Sh.envOf, par2S, par3S, gv_ifS, gv_eIf, gv_orB, gv_andB, asB, List.length_cons, List.length_nil, List.replicate, List.map, List.append_nil, List.cons_append, List.nil_append, setRefIt, ix_w, ix_c, ix_r, ix_t, pr_r, pr_t, eq_ii, ne_ii, appendS, lstOf, isNoneD, isND, id_eq, cmpI, gtI, leI, setOwnIt, true_and, wipeE, rng1, catD, negD, repD, ne_w, need_w, popRefM, pop_w, itemsD, Nat.reduceAdd, Nat.reduceSub, Int.reduceLT, lenV_lst, lenV_tup, lenV_str]
      exact ⟨fun _ => ⟨fun _ => hleaf, fun e => (by cases e)⟩, fun e => (by cases e)⟩
    · cases dn with
      | zero =>
        simp only [List.map_cons, List.map_nil, forS, setV, List.set_cons_succ, List.set_cons_zero, gv_bind, gv_seq, setS, Sh.retS, getV, List.getElem?_cons_succ, List.getElem?_cons_zero, gv_pure, mulD, addD, modD, Sh.intD, Sh.subD, Sh.divD, Sh.powD, arI, gv_guard, skipS, runB, Sh.envOf, par2S, par3S, gv_ifS, gv_eIf, gv_orB, gv_andB, asB, List.length_cons, List.length_nil, List.replicate, List.map, List.append_nil, List.cons_append, List.nil_append, setRefIt, ix_w, ix_c, ix_r, ix_t, pr_r, pr_t, eq_ii, ne_ii, appendS, lstOf, isNoneD, isND, id_eq, cmpI, gtI, leI, setOwnIt, true_and, wipeE, rng1, catD, negD, repD, ne_w, need_w, popRefM, pop_w, itemsD, Nat.reduceAdd, Nat.reduceSub, Int.reduceLT, lenV_lst, lenV_tup, lenV_str]
        exact ⟨fun e => (by cases e), fun _ => ⟨fun _ => hleaf, fun e => by cases e⟩⟩
      | succ d =>
        have hne : (((d + 1 : Nat) : Int) == 0) = false := by
          have : ¬ ((d + 1 : Nat) : Int) = 0 := by omega
          simpa using this
        have e1 : ((d + 1 : Nat) : Int) = (d : Int) + 1 := by omega
        have hT' : T + ((6 + 3 * (1 + tc d) : Nat) : Int) < 2 ^ 39 := hT
        simp only [List.map_cons, List.map_nil, forS, setV, List.set_cons_succ, List.set_cons_zero, gv_bind, gv_seq, setS, Sh.retS, getV, List.getElem?_cons_succ, List.getElem?_cons_zero, gv_pure, mulD, addD, modD, Sh.intD, Sh.subD, Sh.divD, Sh.powD, arI, gv_guard, skipS, runB, Sh.envOf, par2S, par3S, gv_ifS, gv_eIf, gv_orB, gv_andB, asB, List.length_cons, List.length_nil, List.replicate, List.map, List.append_nil, List.cons_append, List.nil_append, setRefIt, ix_w, ix_c, ix_r, ix_t, pr_r, pr_t, eq_ii, ne_ii, appendS, lstOf, isNoneD, isND, id_eq, cmpI, gtI, leI, setOwnIt, true_and, wipeE, rng1, catD, negD, repD, ne_w, need_w, popRefM, pop_w, itemsD, Nat.reduceAdd, Nat.reduceSub, Int.reduceLT, lenV_lst, lenV_tup, lenV_str, hne]
        refine ⟨fun e => (by cases e), fun _ => ⟨fun e => (by cases e), fun _ => ?_⟩⟩
        rw [sort_kv hk]
        refine M.gives_mono (take_g h (by omega) (n := 4) (by decide) (by decide)) fun y st1 ⟨i, e, _, _, h1⟩ => ?_
        subst e
        simp only [List.map_cons, List.map_nil, forS, setV, List.set_cons_succ, List.set_cons_zero, gv_bind, gv_seq, setS, Sh.retS, getV, List.getElem?_cons_succ, List.getElem?_cons_zero, gv_pure, mulD, addD, modD, Sh.intD, Sh.subD, Sh.divD, Sh.powD, arI, gv_guard, skipS, runB, Sh.envOf, par2S, par3S, gv_ifS, gv_eIf, gv_orB, gv_andB, asB, List.length_cons, List.length_nil, List.replicate, List.map, List.append_nil, List.cons_append, List.nil_append, setRefIt, ix_w, ix_c, ix_r, ix_t, pr_r, pr_t, eq_ii, ne_ii, appendS, lstOf, isNoneD, isND, id_eq, cmpI, gtI, leI, setOwnIt, true_and, wipeE, rng1, catD, negD, repD, ne_w, need_w, popRefM, pop_w, itemsD, Nat.reduceAdd, Nat.reduceSub, Int.reduceLT, lenV_lst, lenV_tup, lenV_str]
        have hlen : (sortS (names ks)).length ≤ 6 := by rw [len_sortS, List.length_map]; exact hk.len
        refine ⟨⟨by decide, by decide, by rw [List.length_map]; omega⟩, ?_, ?_⟩
        · rw [rep_names, List.length_map, len_rep]
          show 2 * _ + 1 ≤ 16777216
          omega
        rw [rep_names]
        refine M.gives_mono (deed_pick hk h1 (by omega) (xs := (List.replicate (Int.toNat 2) (sortS (names ks))).flatten) (fun s hs => mem_sortS.mp (mem_rep _ hs)) (by rw [len_rep]; show 2 * _ ≤ 1000; omega)) fun bel st2 ⟨hb, h2⟩ => ?_
        obtain ⟨wb, hwb⟩ := get_kv hs
        have hix : ∀ (st : Sto) (P : D → Sto → Prop), P (.lst (wl wb)) st → (ixD (.dic (ks.map kv)) (.str s)).gives st P := fun st P hp => by
          show (ofO (dgetK (ks.map kv) (.inr s))).gives st P
          rw [hwb]
          exact hp
        refine hix _ _ ?_
        have hw3 : (wl wb).length ≤ 3 := wl_len wb
        have hmul : ((wl wb).length : Int) * (1 + tc d) ≤ 3 * (1 + tc d) := Int.mul_le_mul_of_nonneg_right (by omega) (by omega)
        simp only [List.map_cons, List.map_nil, forS, setV, List.set_cons_succ, List.set_cons_zero, gv_bind, gv_seq, setS, Sh.retS, getV, List.getElem?_cons_succ, List.getElem?_cons_zero, gv_pure, mulD, addD, modD, Sh.intD, Sh.subD, Sh.divD, Sh.powD, arI, gv_guard, skipS, runB, Sh.envOf, par2S, par3S, gv_ifS, gv_eIf, gv_orB, gv_andB, asB, List.length_cons, List.length_nil, List.replicate, List.map, List.append_nil, List.cons_append, List.nil_append, setRefIt, ix_w, ix_c, ix_r, ix_t, pr_r, pr_t, eq_ii, ne_ii, appendS, lstOf, isNoneD, isND, id_eq, cmpI, gtI, leI, setOwnIt, true_and, wipeE, rng1, catD, negD, repD, ne_w, need_w, popRefM, pop_w, itemsD, Nat.reduceAdd, Nat.reduceSub, Int.reduceLT, lenV_lst, lenV_tup, lenV_str, e1]
        refine tree_loop hk hb (dn := d) (fun T st x hx h hT => tree_g hk d n T st x (by omega) hx h hT) (wl wb) [] 0 (T + 1 + 1) st2 _ _ _ (wl_ok wb) (by simpa using hw3) ⟨rfl, Nat.le_refl _, Nat.zero_le _⟩ h2 (by omega) fun ds' st3 x4 x9 q1 q2 => ?_
        simp only [List.map_cons, List.map_nil, forS, setV, List.set_cons_succ, List.set_cons_zero, gv_bind, gv_seq, setS, Sh.retS, getV, List.getElem?_cons_succ, List.getElem?_cons_zero, gv_pure, mulD, addD, modD, Sh.intD, Sh.subD, Sh.divD, Sh.powD, arI, gv_guard, skipS, runB, Sh.envOf, par2S, par3S, gv_ifS, gv_eIf, gv_orB, gv_andB, asB, List.length_cons, List.length_nil, List.replicate, List.map, List.append_nil, List.cons_append, List.nil_append, setRefIt, ix_w, ix_c, ix_r, ix_t, pr_r, pr_t, eq_ii, ne_ii, appendS, lstOf, isNoneD, isND, id_eq, cmpI, gtI, leI, setOwnIt, true_and, wipeE, rng1, catD, negD, repD, ne_w, need_w, popRefM, pop_w, itemsD, Nat.reduceAdd, Nat.reduceSub, Int.reduceLT, lenV_lst, lenV_tup, lenV_str]
        show (tupleD (.lst ds')).gives st3 _
        show (pure (D.tup ds') : M D).gives st3 _
        simp only [List.map_cons, List.map_nil, forS, setV, List.set_cons_succ, List.set_cons_zero, gv_bind, gv_seq, setS, Sh.retS, getV, List.getElem?_cons_succ, List.getElem?_cons_zero, gv_pure, mulD, addD, modD, Sh.intD, Sh.subD, Sh.divD, Sh.powD, arI, gv_guard, skipS, runB, Sh.envOf, par2S, par3S, gv_ifS, gv_eIf, gv_orB, gv_andB, asB, List.length_cons, List.length_nil, List.replicate, List.map, List.append_nil, List.cons_append, List.nil_append, setRefIt, ix_w, ix_c, ix_r, ix_t, pr_r, pr_t, eq_ii, ne_ii, appendS, lstOf, isNoneD, isND, id_eq, cmpI, gtI, leI, setOwnIt, true_and, wipeE, rng1, catD, negD, repD, ne_w, need_w, popRefM, pop_w, itemsD, Nat.reduceAdd, Nat.reduceSub, Int.reduceLT, lenV_lst, lenV_tup, lenV_str]
        have hsl : s ∈ lab := by
          obtain ⟨p, hp, e⟩ := List.mem_map.mp hs
          rw [← e]
          exact hk.lab p hp
        obtain ⟨o, l8⟩ := lab_ok s hsl
        have hmulN : (wl wb).length * (tb d + 7) ≤ 3 * (tb d + 7) := Nat.mul_le_mul_right _ hw3
        refine ⟨⟨?_, ?_, ?_⟩, q2.up ?_⟩
        · show (okS s && (gL ds' && true)) = true
          rw [o, q1.g]; rfl
        · show s.length + 1 + (bkL ds' + 1 + 0) ≤ 3 * (tb d + 8) + 20
          have := q1.bk
          omega
        · show max 0 (max (dpL ds' + 1) 0) + 1 ≤ 3 * (d + 1) + 1
          have := q1.dp
          omega
        · show T + 1 + 1 + ((wl wb).length : Int) * (1 + tc d) ≤ T + ((6 + 3 * (1 + tc d) : Nat) : Int)
          omega
theorem drawn_g {cs : List Int} {R : Sto} {ks : List (Str × Bool)} (hk : KOK ks) {T : Int} {st : Sto} (h : Dw cs R T st) (hT : T + 1000 < 2 ^ 39) : (f__law_drawn_tree [.ref 1, .dic (ks.map kv), .int 3]).gives st fun y st' => Itm 2000 10 y ∧ Dw cs R (T + 1000) st' := by
  unfold f__law_drawn_tree b__law_drawn_tree
  simp only [List.map_cons, List.map_nil, forS, setV, List.set_cons_succ, List.set_cons_zero, gv_bind, gv_seq, setS, Sh.retS, getV, List.getElem?_cons_succ, List.getElem?_cons_zero, gv_pure, mulD, addD, modD, Sh.intD, Sh.subD, Sh.divD, Sh.powD, arI, gv_guard, skipS, runB, Sh.envOf, par2S, par3S, gv_ifS, gv_eIf, gv_orB, gv_andB, asB, List.length_cons, List.length_nil, List.replicate, List.map, List.append_nil, List.cons_append, List.nil_append, setRefIt, ix_w, ix_c, ix_r, ix_t, pr_r, pr_t, eq_ii, ne_ii, appendS, lstOf, isNoneD, isND, id_eq, cmpI, gtI, leI, setOwnIt, true_and, wipeE, rng1, catD, negD, repD, ne_w, need_w, popRefM, pop_w, itemsD, Nat.reduceAdd, Nat.reduceSub, Int.reduceLT, lenV_lst, lenV_tup, lenV_str]
  rw [sort_kv hk]
  have hlen : (sortS (names ks)).length ≤ 6 := by rw [len_sortS, List.length_map]; exact hk.len
  simp only [List.map_cons, List.map_nil, forS, setV, List.set_cons_succ, List.set_cons_zero, gv_bind, gv_seq, setS, Sh.retS, getV, List.getElem?_cons_succ, List.getElem?_cons_zero, gv_pure, mulD, addD, modD, Sh.intD, Sh.subD, Sh.divD, Sh.powD, arI, gv_guard, skipS, runB, Sh.envOf, par2S, par3S, gv_ifS, gv_eIf, gv_orB, gv_andB, asB, List.length_cons, List.length_nil, List.replicate, List.map, List.append_nil, List.cons_append, List.nil_append, setRefIt, ix_w, ix_c, ix_r, ix_t, pr_r, pr_t, eq_ii, ne_ii, appendS, lstOf, isNoneD, isND, id_eq, cmpI, gtI, leI, setOwnIt, true_and, wipeE, rng1, catD, negD, repD, ne_w, need_w, popRefM, pop_w, itemsD, Nat.reduceAdd, Nat.reduceSub, Int.reduceLT, lenV_lst, lenV_tup, lenV_str]
  refine ⟨⟨by decide, by decide, by rw [List.length_map]; omega⟩, ?_, ?_⟩
  · rw [rep_names, List.length_map, len_rep]
    show 3 * _ + 1 ≤ 16777216
    omega
  rw [rep_names]
  refine M.gives_mono (deed_pick hk h (by omega) (xs := (List.replicate (Int.toNat 3) (sortS (names ks))).flatten) (fun s hs => mem_sortS.mp (mem_rep _ hs)) (by rw [len_rep]; show 3 * _ ≤ 1000; omega)) fun x st2 ⟨hx, h2⟩ => ?_
  have e3 : (tc 3 : Int) = 171 := by decide
  refine M.gives_mono (tree_g hk 3 5 (T + 1) st2 x (by decide) hx h2 (by rw [e3]; omega)) fun y st' ⟨hy, h'⟩ => ⟨hy.up (by decide) (by decide), h'.up (by rw [e3]; omega)⟩
end K60
namespace K60
open PySem PySem.Spec PyProof.Rows L2 Sh
theorem gL_set : ∀ {ds : List D} {i : Nat} {y : D}, gL ds = true → y.g = true → gL (ds.set i y) = true
  | [], _, _, _, _ => rfl
  | x :: ds, 0, y, h, hy => by
    have h : (x.g && gL ds) = true := h
    simp only [Bool.and_eq_true] at h
    show (y.g && gL ds) = true
    rw [hy, h.2]; rfl
  | x :: ds, i + 1, y, h, hy => by
    have h : (x.g && gL ds) = true := h
    simp only [Bool.and_eq_true] at h
    show (x.g && gL (ds.set i y)) = true
    rw [h.1, gL_set h.2 hy]; rfl
theorem bkL_set : ∀ {ds : List D} {i : Nat} {x y : D}, ds[i]? = some x → bkL (ds.set i y) + x.bk = bkL ds + y.bk
  | [], _, _, _, h => by simp at h
  | z :: ds, 0, x, y, h => by
    have e : z = x := by simpa using h
    subst e
    show y.bk + 1 + bkL ds + z.bk = z.bk + 1 + bkL ds + y.bk
    omega
  | z :: ds, i + 1, x, y, h => by
    have ih := bkL_set (ds := ds) (i := i) (x := x) (y := y) (by simpa using h)
    show z.bk + 1 + bkL (ds.set i y) + x.bk = z.bk + 1 + bkL ds + y.bk
    omega
theorem dpL_set : ∀ {ds : List D} {i : Nat} {y : D}, dpL (ds.set i y) ≤ max (dpL ds) y.dp
  | [], _, _ => Nat.zero_le _
  | z :: ds, 0, y => by
    show max y.dp (dpL ds) ≤ max (max z.dp (dpL ds)) y.dp
    omega
  | z :: ds, i + 1, y => by
    have ih := dpL_set (ds := ds) (i := i) (y := y)
    show max z.dp (dpL (ds.set i y)) ≤ max (max z.dp (dpL ds)) y.dp
    omega
theorem item_of : ∀ {ds : List D} {i : Nat} {x : D}, ds[i]? = some x → gL ds = true → x.g = true ∧ x.bk + 1 ≤ bkL ds ∧ x.dp ≤ dpL ds
  | [], _, _, h, _ => by simp at h
  | z :: ds, 0, x, h, hg => by
    have e : z = x := by simpa using h
    subst e
    have hg : (z.g && gL ds) = true := hg
    simp only [Bool.and_eq_true] at hg
    exact ⟨hg.1, by show z.bk + 1 ≤ z.bk + 1 + bkL ds; omega, by show z.dp ≤ max z.dp (dpL ds); omega⟩
  | z :: ds, i + 1, x, h, hg => by
    have hg : (z.g && gL ds) = true := hg
    simp only [Bool.and_eq_true] at hg
    obtain ⟨a, b, c⟩ := item_of (ds := ds) (i := i) (x := x) (by simpa using h) hg.2
    exact ⟨a, by show x.bk + 1 ≤ z.bk + 1 + bkL ds; omega, by show x.dp ≤ max z.dp (dpL ds); omega⟩
theorem len_bk : ∀ {ds : List D}, ds.length ≤ bkL ds
  | [] => Nat.le_refl _
  | z :: ds => by
    have := len_bk (ds := ds)
    show ds.length + 1 ≤ z.bk + 1 + bkL ds
    omega
theorem il_part {b k : Nat} {xs ys : List D} (h : ItmL b k (xs ++ ys)) : gL xs = true ∧ gL ys = true ∧ bkL xs + bkL ys ≤ b ∧ dpL xs ≤ k ∧ dpL ys ≤ k := by
  obtain ⟨h1, h2, h3⟩ := h
  rw [gL_app] at h1
  rw [bkL_app] at h2
  rw [dpL_app] at h3
  simp only [Bool.and_eq_true] at h1
  exact ⟨h1.1, h1.2, h2, by omega, by omega⟩
theorem il_app {b c k : Nat} {xs ys : List D} (h : ItmL b k xs) (h2 : ItmL c k ys) : ItmL (b + c) k (xs ++ ys) := by
  refine ⟨?_, ?_, ?_⟩
  · rw [gL_app, h.g, h2.g]; rfl
  · rw [bkL_app]; have := h.bk; have := h2.bk; omega
  · rw [dpL_app]; have := h.dp; have := h2.dp; omega
theorem il_ins {b k n : Nat} {ds : List D} {x : D} {i : Nat} (h : ItmL b k ds) (hx : ds[i]? = some x) : ItmL (2 * b) k (ds.take n ++ [x] ++ ds.drop n) := by
  obtain ⟨a, b1, c⟩ := item_of hx h.g
  have e : ds.take n ++ ds.drop n = ds := List.take_append_drop n ds
  obtain ⟨p1, p2, p3, p4, p5⟩ := il_part (b := b) (k := k) (by rw [e]; exact h)
  have hb := h.bk
  have hd := h.dp
  have one : ItmL (x.bk + 1) k [x] := ⟨by show (x.g && true) = true; rw [a]; rfl, Nat.le_refl _, by show max x.dp 0 ≤ k; omega⟩
  have q := il_app (il_app (⟨p1, Nat.le_refl _, p4⟩ : ItmL (bkL (ds.take n)) k (ds.take n)) one) (⟨p2, Nat.le_refl _, p5⟩ : ItmL (bkL (ds.drop n)) k (ds.drop n))
  exact ⟨q.g, Nat.le_trans q.bk (by omega), q.dp⟩
theorem il_erase {b k : Nat} : ∀ {ds : List D} {i : Nat}, ItmL b k ds → ItmL b k (ds.eraseIdx i) := fun {ds i} h => by
  have e : ds.take i ++ ds.drop i = ds := List.take_append_drop i ds
  rw [List.eraseIdx_eq_take_drop_succ]
  have e2 : ds.take i ++ ((ds.drop i).take 1 ++ ds.drop (i + 1)) = ds := by
    rw [show ds.drop (i + 1) = (ds.drop i).drop 1 by rw [List.drop_drop], List.take_append_drop, List.take_append_drop]
  obtain ⟨p1, p2, p3, p4, p5⟩ := il_part (b := b) (k := k) (by rw [e2]; exact h)
  obtain ⟨r1, r2, r3, r4, r5⟩ := il_part (b := bkL ((ds.drop i).take 1 ++ ds.drop (i + 1))) (k := k) ⟨p2, Nat.le_refl _, p5⟩
  have q := il_app (⟨p1, Nat.le_refl _, p4⟩ : ItmL (bkL (ds.take i)) k (ds.take i)) (⟨r2, Nat.le_refl _, r5⟩ : ItmL (bkL (ds.drop (i + 1))) k (ds.drop (i + 1)))
  exact ⟨q.g, Nat.le_trans q.bk (by omega), q.dp⟩
theorem il_rev {b k : Nat} {ds : List D} (h : ItmL b k ds) : ItmL b k ds.reverse := by
  have key : ∀ ds : List D, gL ds.reverse = gL ds ∧ bkL ds.reverse = bkL ds ∧ dpL ds.reverse = dpL ds := fun ds => by
    induction ds with
    | nil => exact ⟨rfl, rfl, rfl⟩
    | cons x ds ih =>
      obtain ⟨a, b, c⟩ := ih
      rw [List.reverse_cons, gL_app, bkL_app, dpL_app, a, b, c]
      refine ⟨?_, ?_, ?_⟩
      · show (gL ds && (x.g && true)) = (x.g && gL ds)
        cases gL ds <;> cases x.g <;> rfl
      · show bkL ds + (x.bk + 1 + 0) = x.bk + 1 + bkL ds
        omega
      · show max (dpL ds) (max x.dp 0) = max x.dp (dpL ds)
        omega
  obtain ⟨a, b, c⟩ := key ds
  exact ⟨a.trans h.g, by rw [b]; exact h.bk, by rw [c]; exact h.dp⟩
theorem il_set {b c k k' : Nat} {ds : List D} {i : Nat} {x y : D} (h : ItmL b k ds) (hx : ds[i]? = some x) (hy : Itm c k' y) (hk : k ≤ k') : ItmL (b - (x.bk + 1) + (c + 1)) k' (ds.set i y) := by
  have h1 := bkL_set (y := y) hx
  have h2 := dpL_set (ds := ds) (i := i) (y := y)
  have h3 := (item_of hx h.g).2.1
  have := h.bk
  have := h.dp
  have := hy.2.1
  have := hy.2.2
  exact ⟨gL_set h.g hy.1, by omega, by omega⟩
/-- what is put in -/
def bentL (s : Str) : List D := [.tup [.str "hangs"], .tup [.str "told", .int 1], .tup [.str "told", .non], .tup [.str "over", .int 1], .tup [.str "failed", .str "A"], .tup [.str "failed"], .tup [.str "a", .tup []], .str "no", .str "yes",
  .str "fail", .str "No", .bl true, .tup [.str "told", .bl true], .tup [.str "over"], .tup [.str "failed", .str "a"], .str s]
theorem bentL_ok {s : Str} (hs : s ∈ lab) : ∀ d ∈ bentL s, Itm 20 3 d := by
  obtain ⟨o, l⟩ := lab_ok s hs
  have h4 : ([.tup [.str "hangs"], .tup [.str "told", .int 1], .tup [.str "told", .non], .tup [.str "over", .int 1], .tup [.str "failed", .str "A"], .tup [.str "failed"], .tup [.str "a", .tup []], .str "no", .str "yes",
    .str "fail", .str "No", .bl true, .tup [.str "told", .bl true], .tup [.str "over"], .tup [.str "failed", .str "a"]] : List D).all (itB 20 3) = true := by decide +kernel
  intro d hd
  have : bentL s = ([.tup [.str "hangs"], .tup [.str "told", .int 1], .tup [.str "told", .non], .tup [.str "over", .int 1], .tup [.str "failed", .str "A"], .tup [.str "failed"], .tup [.str "a", .tup []], .str "no", .str "yes",
    .str "fail", .str "No", .bl true, .tup [.str "told", .bl true], .tup [.str "over"], .tup [.str "failed", .str "a"]] : List D) ++ [.str s] := rfl
  rw [this] at hd
  rcases List.mem_append.mp hd with hd | hd
  · exact itB_all h4 d hd
  · have e : d = .str s := by simpa using hd
    subst e
    exact ⟨o, by show s.length ≤ 20; omega, Nat.zero_le _⟩
theorem pick_odd {cs : List Int} {R : Sto} {T : Int} {st : Sto} {s : Str} (hs : s ∈ lab) (h : Dw cs R T st) (hT : T + 2 < 2 ^ 39) : (f__law_odd [.ref 1]).gives st fun o st1 => (f__law_pick [.ref 1, .lst (bentL s ++ [o])]).gives st1 fun y st2 => Itm 20 3 y ∧ Dw cs R (T + 2) st2 :=
  M.gives_mono (odd_g h (by omega)) fun o st1 ⟨ho, h1⟩ => M.gives_mono (pick_g h1 (by omega) (by simp) (by simp [bentL])) fun y st2 ⟨hm, h2⟩ => ⟨by
    rcases List.mem_append.mp hm with hm | hm
    · exact bentL_ok hs y hm
    · have e : y = o := by simpa using hm
      rw [e]; exact ho, h2.up (by omega)⟩
end K60
namespace K60
open PySem PySem.Spec PyProof.Rows L2 Sh
abbrev bentR : MS := seqS (Sh.retS (eIf (tB (e2 eqD (eCall f__law_take (lCons (eV 0) (lCons (eC (.int 9)) lNil))) (eC (.int 0)))) (eV 7) (e1 tupleD (eV 7)))) skipS
abbrev bentI (r : List D → M D) : MS := ifS (tB (e2 eqD (eV 6) (eC (.int 0)))) (seqS (popOwnS 7 (eV 5)) skipS)
  (seqS (ifS (tB (e2 eqD (eV 6) (eC (.int 1)))) (seqS (insOwnS 7 (eV 5) (e2 ixD (eV 7) (eV 5))) skipS)
  (seqS (ifS (tB (e2 eqD (eV 6) (eC (.int 2)))) (seqS (appendS 7 (eCall f__law_pick (lCons (eV 0) (lCons (eV 4) lNil)))) skipS)
  (seqS (ifS (tB (e2 eqD (eV 6) (eC (.int 3)))) (seqS (setS 7 (e1 revD (eV 7))) skipS)
  (seqS (setOwnIt 7 (eV 5) (eCall r (lCons (eV 0) (lCons (e2 ixD (eV 7) (eV 5)) (lCons (eV 2) (lCons (e2 subD (eV 3) (eC (.int 1))) lNil)))))) skipS)) skipS)) skipS)) skipS)
abbrev bentT (r : List D → M D) : MS := seqS (par3S 5 6 7 (lCons (eCall f__law_take (lCons (eV 0) (lCons (e1 lenD (eV 1)) lNil))) (lCons (eCall f__law_take (lCons (eV 0) (lCons (eC (.int 10)) lNil))) (lCons (e1 listD (eV 1)) lNil)))) (seqS (bentI r) bentR)
theorem ret_seq {cs : List Int} {R : Sto} {T : Int} {st : Sto} {b k : Nat} {a0 a1 a2 a3 a4 a5 a6 : Option D} {ds : List D} (h : Dw cs R T st) (hT : T + 1 < 2 ^ 39) (h0 : a0 = some (.ref 1)) (hi : ItmL b k ds) {P : Fl × Sh.Env → Sto → Prop} (fin : ∀ y st' ρ, Itm b (k + 1) y → Dw cs R (T + 1) st' → P (.rt y, ρ) st') :
    (bentR [a0, a1, a2, a3, a4, a5, a6, some (.lst ds)]).gives st P := by
  subst h0
  simp only [List.map_cons, List.map_nil, forS, setV, List.set_cons_succ, List.set_cons_zero, gv_bind, gv_seq, setS, Sh.retS, getV, List.getElem?_cons_succ, List.getElem?_cons_zero, gv_pure, mulD, addD, modD, Sh.intD, Sh.subD, Sh.divD, Sh.powD, arI, gv_guard, skipS, runB, Sh.envOf, par2S, par3S, gv_ifS, gv_eIf, gv_orB, gv_andB, asB, List.length_cons, List.length_nil, List.replicate, List.map, List.append_nil, List.cons_append, List.nil_append, setRefIt, ix_w, ix_c, ix_r, ix_t, pr_r, pr_t, eq_ii, ne_ii, appendS, lstOf, isNoneD, isND, id_eq, cmpI, gtI, leI, setOwnIt, true_and, wipeE, rng1, catD, negD, repD, ne_w, need_w, popRefM, pop_w, itemsD, Nat.reduceAdd, Nat.reduceSub, Int.reduceLT, lenV_lst, lenV_tup, lenV_str]
  refine M.gives_mono (take_g h (by omega) (n := 9) (by decide) (by decide)) fun y st' ⟨i, e, _, _, h1⟩ => ?_
  subst e
  simp only [List.map_cons, List.map_nil, forS, setV, List.set_cons_succ, List.set_cons_zero, gv_bind, gv_seq, setS, Sh.retS, getV, List.getElem?_cons_succ, List.getElem?_cons_zero, gv_pure, mulD, addD, modD, Sh.intD, Sh.subD, Sh.divD, Sh.powD, arI, gv_guard, skipS, runB, Sh.envOf, par2S, par3S, gv_ifS, gv_eIf, gv_orB, gv_andB, asB, List.length_cons, List.length_nil, List.replicate, List.map, List.append_nil, List.cons_append, List.nil_append, setRefIt, ix_w, ix_c, ix_r, ix_t, pr_r, pr_t, eq_ii, ne_ii, appendS, lstOf, isNoneD, isND, id_eq, cmpI, gtI, leI, setOwnIt, true_and, wipeE, rng1, catD, negD, repD, ne_w, need_w, popRefM, pop_w, itemsD, Nat.reduceAdd, Nat.reduceSub, Int.reduceLT, lenV_lst, lenV_tup, lenV_str]
  have i1 : Itm b (k + 1) (.lst ds) := ⟨hi.g, hi.bk, by show dpL ds + 1 ≤ k + 1; have := hi.dp; omega⟩
  have i2 : Itm b (k + 1) (.tup ds) := ⟨hi.g, hi.bk, by show dpL ds + 1 ≤ k + 1; have := hi.dp; omega⟩
  refine ⟨fun _ => fin _ _ _ i1 h1, fun _ => ?_⟩
  show (pure (D.tup ds) : M D).gives st' _
  simp only [List.map_cons, List.map_nil, forS, setV, List.set_cons_succ, List.set_cons_zero, gv_bind, gv_seq, setS, Sh.retS, getV, List.getElem?_cons_succ, List.getElem?_cons_zero, gv_pure, mulD, addD, modD, Sh.intD, Sh.subD, Sh.divD, Sh.powD, arI, gv_guard, skipS, runB, Sh.envOf, par2S, par3S, gv_ifS, gv_eIf, gv_orB, gv_andB, asB, List.length_cons, List.length_nil, List.replicate, List.map, List.append_nil, List.cons_append, List.nil_append, setRefIt, ix_w, ix_c, ix_r, ix_t, pr_r, pr_t, eq_ii, ne_ii, appendS, lstOf, isNoneD, isND, id_eq, cmpI, gtI, leI, setOwnIt, true_and, wipeE, rng1, catD, negD, repD, ne_w, need_w, popRefM, pop_w, itemsD, Nat.reduceAdd, Nat.reduceSub, Int.reduceLT, lenV_lst, lenV_tup, lenV_str]
  exact fin _ _ _ i2 h1
theorem bent_tail {cs : List Int} {R : Sto} {ks : List (Str × Bool)} {r : List D → M D} {dn : Nat} {s : Str} (hs : s ∈ lab)
    (hr : ∀ (T : Int) (st : Sto) (x : D) (b k : Nat), Itm b k x → b ≤ 100000 → Dw cs R T st → T + 6 * ((dn : Int) + 1) < 2 ^ 39 → (r [.ref 1, x, .dic (ks.map kv), .int dn]).gives st fun y st' => Itm (2 * b + 60) (k + 3) y ∧ Dw cs R (T + 6 * ((dn : Int) + 1)) st')
    {d : D} {ds : List D} {b k : Nat} {T : Int} {st : Sto} (hi : ItmL b k ds) (hb : b ≤ 100000) (hne : ds ≠ []) (h : Dw cs R T st) (hT : T + 4 + 6 * ((dn : Int) + 1) < 2 ^ 39)
    (hlen : ∀ (st : Sto) (P : D → Sto → Prop), P (.int ds.length) st → (lenD d).gives st P) (hlist : ∀ (st : Sto) (P : D → Sto → Prop), P (.lst ds) st → (listD d).gives st P)
    {P : Fl × Sh.Env → Sto → Prop} (fin : ∀ y st' ρ, Itm (2 * b + 60) (k + 4) y → Dw cs R (T + 4 + 6 * ((dn : Int) + 1)) st' → P (.rt y, ρ) st') :
    (bentT r [some (.ref 1), some d, some (.dic (ks.map kv)), some (.int ((dn : Int) + 1)), some (.lst (bentL s)), none, none, none]).gives st P := by
  have hp : 0 < ds.length := List.length_pos_iff.mpr hne
  have hlb : ds.length ≤ 100000 := Nat.le_trans len_bk (Nat.le_trans hi.bk hb)
  have e0 : ((dn : Int) + 1) - 1 = dn := by omega
  simp only [List.map_cons, List.map_nil, forS, setV, List.set_cons_succ, List.set_cons_zero, gv_bind, gv_seq, setS, Sh.retS, getV, List.getElem?_cons_succ, List.getElem?_cons_zero, gv_pure, mulD, addD, modD, Sh.intD, Sh.subD, Sh.divD, Sh.powD, arI, gv_guard, skipS, runB, Sh.envOf, par2S, par3S, gv_ifS, gv_eIf, gv_orB, gv_andB, asB, List.length_cons, List.length_nil, List.replicate, List.map, List.append_nil, List.cons_append, List.nil_append, setRefIt, ix_w, ix_c, ix_r, ix_t, pr_r, pr_t, eq_ii, ne_ii, appendS, lstOf, isNoneD, isND, id_eq, cmpI, gtI, leI, setOwnIt, true_and, wipeE, rng1, catD, negD, repD, ne_w, need_w, popRefM, pop_w, itemsD, Nat.reduceAdd, Nat.reduceSub, Int.reduceLT, lenV_lst, lenV_tup, lenV_str]
  refine hlen _ _ ?_
  refine M.gives_mono (take_g h (by omega) (n := ds.length) (by omega) (by omega)) fun y st1 ⟨i, e, i0, i1, h1⟩ => ?_
  subst e
  refine M.gives_mono (take_g h1 (by omega) (n := 10) (by decide) (by decide)) fun y st2 ⟨way, e, _, _, h2⟩ => ?_
  subst e
  refine hlist _ _ ?_
  simp only [List.map_cons, List.map_nil, forS, setV, List.set_cons_succ, List.set_cons_zero, gv_bind, gv_seq, setS, Sh.retS, getV, List.getElem?_cons_succ, List.getElem?_cons_zero, gv_pure, mulD, addD, modD, Sh.intD, Sh.subD, Sh.divD, Sh.powD, arI, gv_guard, skipS, runB, Sh.envOf, par2S, par3S, gv_ifS, gv_eIf, gv_orB, gv_andB, asB, List.length_cons, List.length_nil, List.replicate, List.map, List.append_nil, List.cons_append, List.nil_append, setRefIt, ix_w, ix_c, ix_r, ix_t, pr_r, pr_t, eq_ii, ne_ii, appendS, lstOf, isNoneD, isND, id_eq, cmpI, gtI, leI, setOwnIt, true_and, wipeE, rng1, catD, negD, repD, ne_w, need_w, popRefM, pop_w, itemsD, Nat.reduceAdd, Nat.reduceSub, Int.reduceLT, lenV_lst, lenV_tup, lenV_str]
  have hil : i.toNat < ds.length := by omega
  have hx : ds[i.toNat]? = some ds[i.toNat] := List.getElem?_eq_getElem hil
  have hixN : ixN ds.length i = some i.toNat := by unfold ixN; rw [if_pos i0, if_pos i1]
  have hat : atI ds i = some ds[i.toNat] := by unfold atI; rw [hixN]; exact hx
  obtain ⟨xg, xb, xd⟩ := item_of hx hi.g
  have hbk := hi.bk
  have hdp := hi.dp
  have ret : ∀ (ds' : List D) (st' : Sto) (T' : Int), ItmL (2 * b + 60) (k + 3) ds' → Dw cs R T' st' → T' ≤ T + 3 + 6 * ((dn : Int) + 1) → (bentR [some (.ref 1), some d, some (.dic (ks.map kv)), some (.int ((dn : Int) + 1)), some (.lst (bentL s)), some (.int i), some (.int way), some (.lst ds')]).gives st' P := fun ds' st' T' q hd hl =>
    ret_seq hd (by omega) rfl q fun y st3 ρ a b => fin y st3 ρ a (b.up (by omega))
  have up : ∀ {b' k' : Nat} {ds' : List D}, ItmL b' k' ds' → b' ≤ 2 * b + 60 → k' ≤ k + 3 → ItmL (2 * b + 60) (k + 3) ds' := fun q h1 h2 => ⟨q.g, Nat.le_trans q.bk h1, Nat.le_trans q.dp h2⟩
  refine ⟨fun _ => ?_, fun _ => ⟨fun _ => ?_, fun _ => ⟨fun _ => ?_, fun _ => ⟨fun _ => ?_, fun _ => ?_⟩⟩⟩⟩
  · -- pop
    have e : popAt (.lst ds) (.int i) = some (ds[i.toNat], .lst (ds.eraseIdx i.toNat)) := by
      unfold popAt
      have : seqIndex? i ds.length = some i.toNat := by unfold seqIndex?; simp [show ¬ i < 0 by omega, i0, i1]
      simp only [this, hx, Option.map_some]
    simp only [popOwnS, List.map_cons, List.map_nil, forS, setV, List.set_cons_succ, List.set_cons_zero, gv_bind, gv_seq, setS, Sh.retS, getV, List.getElem?_cons_succ, List.getElem?_cons_zero, gv_pure, mulD, addD, modD, Sh.intD, Sh.subD, Sh.divD, Sh.powD, arI, gv_guard, skipS, runB, Sh.envOf, par2S, par3S, gv_ifS, gv_eIf, gv_orB, gv_andB, asB, List.length_cons, List.length_nil, List.replicate, List.map, List.append_nil, List.cons_append, List.nil_append, setRefIt, ix_w, ix_c, ix_r, ix_t, pr_r, pr_t, eq_ii, ne_ii, appendS, lstOf, isNoneD, isND, id_eq, cmpI, gtI, leI, setOwnIt, true_and, wipeE, rng1, catD, negD, repD, ne_w, need_w, popRefM, pop_w, itemsD, Nat.reduceAdd, Nat.reduceSub, Int.reduceLT, lenV_lst, lenV_tup, lenV_str, e, ofOP]
    have := ret _ st2 _ (up (il_erase (i := i.toNat) hi) (by omega) (by omega)) h2 (by omega)
    first | exact this | (simp only [List.map_cons, List.map_nil, forS, setV, List.set_cons_succ, List.set_cons_zero, gv_bind, gv_seq, setS, Sh.retS, getV, List.getElem?_cons_succ, List.getElem?_cons_zero, gv_pure, mulD, addD, modD, Sh.intD, Sh.subD, Sh.divD, Sh.powD, arI, gv_guard, skipS, runB, Sh.envOf, par2S, par3S, gv_ifS, gv_eIf, gv_orB, gv_andB, asB, List.length_cons, List.length_nil, List.replicate, List.map, List.append_nil, List.cons_append, List.nil_append, setRefIt, ix_w, ix_c, ix_r, ix_t, pr_r, pr_t, eq_ii, ne_ii, appendS, lstOf, isNoneD, isND, id_eq, cmpI, gtI, leI, setOwnIt, true_and, wipeE, rng1, catD, negD, repD, ne_w, need_w, popRefM, pop_w, itemsD, Nat.reduceAdd, Nat.reduceSub, Int.reduceLT, lenV_lst, lenV_tup, lenV_str] at this; exact this)
  · -- insert
    have hix : ∀ (st : Sto) (P : D → Sto → Prop), P ds[i.toNat] st → (ixD (.lst ds) (.int i)).gives st P := fun st P hp => by
      show (ofO (atI ds i)).gives st P
      rw [hat]
      exact hp
    have e : insAt (.lst ds) (.int i) ds[i.toNat] = some (.lst (ds.take i.toNat ++ [ds[i.toNat]] ++ ds.drop i.toNat)) := by
      unfold insAt
      simp only
      rw [if_pos ⟨i0, by omega, by omega⟩]
    simp only [insOwnS, List.map_cons, List.map_nil, forS, setV, List.set_cons_succ, List.set_cons_zero, gv_bind, gv_seq, setS, Sh.retS, getV, List.getElem?_cons_succ, List.getElem?_cons_zero, gv_pure, mulD, addD, modD, Sh.intD, Sh.subD, Sh.divD, Sh.powD, arI, gv_guard, skipS, runB, Sh.envOf, par2S, par3S, gv_ifS, gv_eIf, gv_orB, gv_andB, asB, List.length_cons, List.length_nil, List.replicate, List.map, List.append_nil, List.cons_append, List.nil_append, setRefIt, ix_w, ix_c, ix_r, ix_t, pr_r, pr_t, eq_ii, ne_ii, appendS, lstOf, isNoneD, isND, id_eq, cmpI, gtI, leI, setOwnIt, true_and, wipeE, rng1, catD, negD, repD, ne_w, need_w, popRefM, pop_w, itemsD, Nat.reduceAdd, Nat.reduceSub, Int.reduceLT, lenV_lst, lenV_tup, lenV_str]
    refine hix _ _ ?_
    simp only [e, ofO, List.map_cons, List.map_nil, forS, setV, List.set_cons_succ, List.set_cons_zero, gv_bind, gv_seq, setS, Sh.retS, getV, List.getElem?_cons_succ, List.getElem?_cons_zero, gv_pure, mulD, addD, modD, Sh.intD, Sh.subD, Sh.divD, Sh.powD, arI, gv_guard, skipS, runB, Sh.envOf, par2S, par3S, gv_ifS, gv_eIf, gv_orB, gv_andB, asB, List.length_cons, List.length_nil, List.replicate, List.map, List.append_nil, List.cons_append, List.nil_append, setRefIt, ix_w, ix_c, ix_r, ix_t, pr_r, pr_t, eq_ii, ne_ii, appendS, lstOf, isNoneD, isND, id_eq, cmpI, gtI, leI, setOwnIt, true_and, wipeE, rng1, catD, negD, repD, ne_w, need_w, popRefM, pop_w, itemsD, Nat.reduceAdd, Nat.reduceSub, Int.reduceLT, lenV_lst, lenV_tup, lenV_str]
    have := ret _ st2 _ (up (il_ins (n := i.toNat) hi hx) (by omega) (by omega)) h2 (by omega)
    first | exact this | (simp only [List.map_cons, List.map_nil, forS, setV, List.set_cons_succ, List.set_cons_zero, gv_bind, gv_seq, setS, Sh.retS, getV, List.getElem?_cons_succ, List.getElem?_cons_zero, gv_pure, mulD, addD, modD, Sh.intD, Sh.subD, Sh.divD, Sh.powD, arI, gv_guard, skipS, runB, Sh.envOf, par2S, par3S, gv_ifS, gv_eIf, gv_orB, gv_andB, asB, List.length_cons, List.length_nil, List.replicate, List.map, List.append_nil, List.cons_append, List.nil_append, setRefIt, ix_w, ix_c, ix_r, ix_t, pr_r, pr_t, eq_ii, ne_ii, appendS, lstOf, isNoneD, isND, id_eq, cmpI, gtI, leI, setOwnIt, true_and, wipeE, rng1, catD, negD, repD, ne_w, need_w, popRefM, pop_w, itemsD, Nat.reduceAdd, Nat.reduceSub, Int.reduceLT, lenV_lst, lenV_tup, lenV_str] at this; exact this)
  · -- append
    have hpk := pick_g h2 (by omega) (xs := bentL s) (by simp [bentL]) (by simp [bentL])
    refine M.gives_mono hpk fun y st3 ⟨hm, h3⟩ => ?_
    refine ⟨by omega, ?_⟩
    have hy := bentL_ok hs y hm
    have hy' : Itm 20 (k + 3) y := hy.up (Nat.le_refl _) (by omega)
    have := ret _ st3 _ (up ((⟨hi.g, hi.bk, by omega⟩ : ItmL b (k + 3) ds).snoc hy') (by omega) (by omega)) h3 (by omega)
    first | exact this | (simp only [List.map_cons, List.map_nil, forS, setV, List.set_cons_succ, List.set_cons_zero, gv_bind, gv_seq, setS, Sh.retS, getV, List.getElem?_cons_succ, List.getElem?_cons_zero, gv_pure, mulD, addD, modD, Sh.intD, Sh.subD, Sh.divD, Sh.powD, arI, gv_guard, skipS, runB, Sh.envOf, par2S, par3S, gv_ifS, gv_eIf, gv_orB, gv_andB, asB, List.length_cons, List.length_nil, List.replicate, List.map, List.append_nil, List.cons_append, List.nil_append, setRefIt, ix_w, ix_c, ix_r, ix_t, pr_r, pr_t, eq_ii, ne_ii, appendS, lstOf, isNoneD, isND, id_eq, cmpI, gtI, leI, setOwnIt, true_and, wipeE, rng1, catD, negD, repD, ne_w, need_w, popRefM, pop_w, itemsD, Nat.reduceAdd, Nat.reduceSub, Int.reduceLT, lenV_lst, lenV_tup, lenV_str] at this; exact this)
  · -- reverse
    show (pure (D.lst ds.reverse) : M D).gives st2 _
    simp only [List.map_cons, List.map_nil, forS, setV, List.set_cons_succ, List.set_cons_zero, gv_bind, gv_seq, setS, Sh.retS, getV, List.getElem?_cons_succ, List.getElem?_cons_zero, gv_pure, mulD, addD, modD, Sh.intD, Sh.subD, Sh.divD, Sh.powD, arI, gv_guard, skipS, runB, Sh.envOf, par2S, par3S, gv_ifS, gv_eIf, gv_orB, gv_andB, asB, List.length_cons, List.length_nil, List.replicate, List.map, List.append_nil, List.cons_append, List.nil_append, setRefIt, ix_w, ix_c, ix_r, ix_t, pr_r, pr_t, eq_ii, ne_ii, appendS, lstOf, isNoneD, isND, id_eq, cmpI, gtI, leI, setOwnIt, true_and, wipeE, rng1, catD, negD, repD, ne_w, need_w, popRefM, pop_w, itemsD, Nat.reduceAdd, Nat.reduceSub, Int.reduceLT, lenV_lst, lenV_tup, lenV_str]
    have := ret _ st2 _ (up (il_rev hi) (by omega) (by omega)) h2 (by omega)
    first | exact this | (simp only [List.map_cons, List.map_nil, forS, setV, List.set_cons_succ, List.set_cons_zero, gv_bind, gv_seq, setS, Sh.retS, getV, List.getElem?_cons_succ, List.getElem?_cons_zero, gv_pure, mulD, addD, modD, Sh.intD, Sh.subD, Sh.divD, Sh.powD, arI, gv_guard, skipS, runB, Sh.envOf, par2S, par3S, gv_ifS, gv_eIf, gv_orB, gv_andB, asB, List.length_cons, List.length_nil, List.replicate, List.map, List.append_nil, List.cons_append, List.nil_append, setRefIt, ix_w, ix_c, ix_r, ix_t, pr_r, pr_t, eq_ii, ne_ii, appendS, lstOf, isNoneD, isND, id_eq, cmpI, gtI, leI, setOwnIt, true_and, wipeE, rng1, catD, negD, repD, ne_w, need_w, popRefM, pop_w, itemsD, Nat.reduceAdd, Nat.reduceSub, Int.reduceLT, lenV_lst, lenV_tup, lenV_str] at this; exact this)
  · -- one of them bent
    have hix : ∀ (st : Sto) (P : D → Sto → Prop), P ds[i.toNat] st → (ixD (.lst ds) (.int i)).gives st P := fun st P hp => by
      show (ofO (atI ds i)).gives st P
      rw [hat]
      exact hp
    have hq := hr (T + 1 + 1) st2 ds[i.toNat] ds[i.toNat].bk k ⟨xg, Nat.le_refl _, by omega⟩ (by omega) h2 (by omega)
    simp only [List.map_cons, List.map_nil, forS, setV, List.set_cons_succ, List.set_cons_zero, gv_bind, gv_seq, setS, Sh.retS, getV, List.getElem?_cons_succ, List.getElem?_cons_zero, gv_pure, mulD, addD, modD, Sh.intD, Sh.subD, Sh.divD, Sh.powD, arI, gv_guard, skipS, runB, Sh.envOf, par2S, par3S, gv_ifS, gv_eIf, gv_orB, gv_andB, asB, List.length_cons, List.length_nil, List.replicate, List.map, List.append_nil, List.cons_append, List.nil_append, setRefIt, ix_w, ix_c, ix_r, ix_t, pr_r, pr_t, eq_ii, ne_ii, appendS, lstOf, isNoneD, isND, id_eq, cmpI, gtI, leI, setOwnIt, true_and, wipeE, rng1, catD, negD, repD, ne_w, need_w, popRefM, pop_w, itemsD, Nat.reduceAdd, Nat.reduceSub, Int.reduceLT, lenV_lst, lenV_tup, lenV_str, e0]
    refine hix _ _ ?_
    refine M.gives_mono hq fun y st3 ⟨hy, h3⟩ => ?_
    have e : setIt (.lst ds) (.int i) y = some (.lst (ds.set i.toNat y)) := by
      show (ixN ds.length i).map (fun j => D.lst (ds.set j y)) = _
      rw [hixN]
      rfl
    simp only [e, ofO, List.map_cons, List.map_nil, forS, setV, List.set_cons_succ, List.set_cons_zero, gv_bind, gv_seq, setS, Sh.retS, getV, List.getElem?_cons_succ, List.getElem?_cons_zero, gv_pure, mulD, addD, modD, Sh.intD, Sh.subD, Sh.divD, Sh.powD, arI, gv_guard, skipS, runB, Sh.envOf, par2S, par3S, gv_ifS, gv_eIf, gv_orB, gv_andB, asB, List.length_cons, List.length_nil, List.replicate, List.map, List.append_nil, List.cons_append, List.nil_append, setRefIt, ix_w, ix_c, ix_r, ix_t, pr_r, pr_t, eq_ii, ne_ii, appendS, lstOf, isNoneD, isND, id_eq, cmpI, gtI, leI, setOwnIt, true_and, wipeE, rng1, catD, negD, repD, ne_w, need_w, popRefM, pop_w, itemsD, Nat.reduceAdd, Nat.reduceSub, Int.reduceLT, lenV_lst, lenV_tup, lenV_str]
    have := ret _ st3 _ (up (il_set hi hx hy (by omega)) (by omega) (by omega)) h3 (by omega)
    first | exact this | (simp only [List.map_cons, List.map_nil, forS, setV, List.set_cons_succ, List.set_cons_zero, gv_bind, gv_seq, setS, Sh.retS, getV, List.getElem?_cons_succ, List.getElem?_cons_zero, gv_pure, mulD, addD, modD, Sh.intD, Sh.subD, Sh.divD, Sh.powD, arI, gv_guard, skipS, runB, Sh.envOf, par2S, par3S, gv_ifS, gv_eIf, gv_orB, gv_andB, asB, List.length_cons, List.length_nil, List.replicate, List.map, List.append_nil, List.cons_append, List.nil_append, setRefIt, ix_w, ix_c, ix_r, ix_t, pr_r, pr_t, eq_ii, ne_ii, appendS, lstOf, isNoneD, isND, id_eq, cmpI, gtI, leI, setOwnIt, true_and, wipeE, rng1, catD, negD, repD, ne_w, need_w, popRefM, pop_w, itemsD, Nat.reduceAdd, Nat.reduceSub, Int.reduceLT, lenV_lst, lenV_tup, lenV_str] at this; exact this)
end K60
namespace K60
open PySem PySem.Spec PyProof.Rows L2 Sh
theorem isi2_run {T U : String} {x : D} {a : String} (h : x.tyN = some a) {st : Sto} {P : D → Sto → Prop} : (isi2D T U x).gives st P ↔ P (.bl (isT a T || isT a U)) st := by
  unfold isi2D
  rw [M.gives_bind]
  have hv : view x = (pure x : M D) := by cases x <;> first | rfl | cases h
  rw [hv]
  show M.gives (match x.tyN with | some a => pure (D.bl (isT a T || isT a U)) | none => M.bad) st P ↔ _
  rw [h]
  exact Iff.rfl
theorem t_no : ∀ a ∈ ["NoneType", "bool", "int", "str", "dict"], (isT a "list" || isT a "tuple") = false := by decide
theorem t_yes : ∀ a ∈ ["list", "tuple"], (isT a "list" || isT a "tuple") = true := by decide
theorem bent_g {cs : List Int} {R : Sto} {ks : List (Str × Bool)} (hk : KOK ks) : ∀ (dn n : Nat) (T : Int) (st : Sto) (x : D) (b k : Nat), dn < n → Itm b k x → b ≤ 100000 → Dw cs R T st → T + 6 * ((dn : Int) + 1) < 2 ^ 39 →
    (f__law_bent n [.ref 1, x, .dic (ks.map kv), .int dn]).gives st fun y st' => Itm (2 * b + 60) (k + 3) y ∧ Dw cs R (T + 6 * ((dn : Int) + 1)) st'
  | dn, 0, T, st, x, b, k, hn, _, _, _, _ => by omega
  | dn, n + 1, T, st, x, b, k, hn, hx, hb, h, hT => by
    obtain ⟨s, hsn, hs, hf⟩ := first_kv hk
    unfold f__law_bent b__law_bent
    simp only [List.map_cons, List.map_nil, forS, setV, List.set_cons_succ, List.set_cons_zero, gv_bind, gv_seq, setS, Sh.retS, getV, List.getElem?_cons_succ, List.getElem?_cons_zero, gv_pure, mulD, addD, modD, Sh.intD, Sh.subD, Sh.divD, Sh.powD, arI, gv_guard, skipS, runB, Sh.envOf, par2S, par3S, gv_ifS, gv_eIf, gv_orB, gv_andB, asB, List.length_cons, List.length_nil, List.replicate, List.map, List.append_nil, List.cons_append, List.nil_append, setRefIt, ix_w, ix_c, ix_r, ix_t, pr_r, pr_t, eq_ii, ne_ii, appendS, lstOf, isNoneD, isND, id_eq, cmpI, gtI, leI, setOwnIt, true_and, wipeE, rng1, catD, negD, repD, ne_w, need_w, popRefM, pop_w, itemsD, Nat.reduceAdd, Nat.reduceSub, Int.reduceLT, lenV_lst, lenV_tup, lenV_str]
    rw [sort_kv hk]
    refine hf _ _ ?_
    have po : ∀ {T' : Int} {st' : Sto}, Dw cs R T' st' → T' + 2 ≤ T + 6 * ((dn : Int) + 1) → (f__law_odd [.ref 1]).gives st' fun o st1 => (f__law_pick [.ref 1, .lst (bentL s ++ [o])]).gives st1 fun y st2 => Itm (2 * b + 60) (k + 3) y ∧ Dw cs R (T + 6 * ((dn : Int) + 1)) st2 := fun {T' st'} h' hl =>
      M.gives_mono (pick_odd hs h' (by omega)) fun o st1 q => M.gives_mono q fun y st2 ⟨a, b⟩ => ⟨a.up (by omega) (by omega), b.up hl⟩
    have poG : ∀ {T' : Int} {st' : Sto}, Dw cs R T' st' → T' + 2 ≤ T + 6 * ((dn : Int) + 1) → (f__law_odd [.ref 1]).gives st' fun o st1 => 17 ≤ 16777216 ∧ (f__law_pick [.ref 1, .lst (bentL s ++ [o])]).gives st1 fun y st2 => Itm (2 * b + 60) (k + 3) y ∧ Dw cs R (T + 6 * ((dn : Int) + 1)) st2 := fun {T' st'} h' hl =>
      M.gives_mono (po h' hl) fun o st1 q => ⟨by decide, q⟩
    refine ⟨by decide, ?_⟩
    cases x with
    | non =>
      rw [isi2_run (a := "NoneType") rfl, t_no "NoneType" (by simp)]
      simp only [List.map_cons, List.map_nil, forS, setV, List.set_cons_succ, List.set_cons_zero, gv_bind, gv_seq, setS, Sh.retS, getV, List.getElem?_cons_succ, List.getElem?_cons_zero, gv_pure, mulD, addD, modD, Sh.intD, Sh.subD, Sh.divD, Sh.powD, arI, gv_guard, skipS, runB, Sh.envOf, par2S, par3S, gv_ifS, gv_eIf, gv_orB, gv_andB, asB, List.length_cons, List.length_nil, List.replicate, List.map, List.append_nil, List.cons_append, List.nil_append, setRefIt, ix_w, ix_c, ix_r, ix_t, pr_r, pr_t, eq_ii, ne_ii, appendS, lstOf, isNoneD, isND, id_eq, cmpI, gtI, leI, setOwnIt, true_and, wipeE, rng1, catD, negD, repD, ne_w, need_w, popRefM, pop_w, itemsD, Nat.reduceAdd, Nat.reduceSub, Int.reduceLT, lenV_lst, lenV_tup, lenV_str]
      exact ⟨fun _ => ⟨fun _ => poG h (by omega), fun e => (by cases e)⟩, fun e => (by cases e)⟩
    | bl _ =>
      rw [isi2_run (a := "bool") rfl, t_no "bool" (by simp)]
      simp only [List.map_cons, List.map_nil, forS, setV, List.set_cons_succ, List.set_cons_zero, gv_bind, gv_seq, setS, Sh.retS, getV, List.getElem?_cons_succ, List.getElem?_cons_zero, gv_pure, mulD, addD, modD, Sh.intD, Sh.subD, Sh.divD, Sh.powD, arI, gv_guard, skipS, runB, Sh.envOf, par2S, par3S, gv_ifS, gv_eIf, gv_orB, gv_andB, asB, List.length_cons, List.length_nil, List.replicate, List.map, List.append_nil, List.cons_append, List.nil_append, setRefIt, ix_w, ix_c, ix_r, ix_t, pr_r, pr_t, eq_ii, ne_ii, appendS, lstOf, isNoneD, isND, id_eq, cmpI, gtI, leI, setOwnIt, true_and, wipeE, rng1, catD, negD, repD, ne_w, need_w, popRefM, pop_w, itemsD, Nat.reduceAdd, Nat.reduceSub, Int.reduceLT, lenV_lst, lenV_tup, lenV_str]
      exact ⟨fun _ => ⟨fun _ => poG h (by omega), fun e => (by cases e)⟩, fun e => (by cases e)⟩
    | int _ =>
      rw [isi2_run (a := "int") rfl, t_no "int" (by simp)]
      simp only [List.map_cons, List.map_nil, forS, setV, List.set_cons_succ, List.set_cons_zero, gv_bind, gv_seq, setS, Sh.retS, getV, List.getElem?_cons_succ, List.getElem?_cons_zero, gv_pure, mulD, addD, modD, Sh.intD, Sh.subD, Sh.divD, Sh.powD, arI, gv_guard, skipS, runB, Sh.envOf, par2S, par3S, gv_ifS, gv_eIf, gv_orB, gv_andB, asB, List.length_cons, List.length_nil, List.replicate, List.map, List.append_nil, List.cons_append, List.nil_append, setRefIt, ix_w, ix_c, ix_r, ix_t, pr_r, pr_t, eq_ii, ne_ii, appendS, lstOf, isNoneD, isND, id_eq, cmpI, gtI, leI, setOwnIt, true_and, wipeE, rng1, catD, negD, repD, ne_w, need_w, popRefM, pop_w, itemsD, Nat.reduceAdd, Nat.reduceSub, Int.reduceLT, lenV_lst, lenV_tup, lenV_str]
      exact ⟨fun _ => ⟨fun _ => poG h (by omega), fun e => (by cases e)⟩, fun e => (by cases e)⟩
    | str _ =>
      rw [isi2_run (a := "str") rfl, t_no "str" (by simp)]
      simp only [List.map_cons, List.map_nil, forS, setV, List.set_cons_succ, List.set_cons_zero, gv_bind, gv_seq, setS, Sh.retS, getV, List.getElem?_cons_succ, List.getElem?_cons_zero, gv_pure, mulD, addD, modD, Sh.intD, Sh.subD, Sh.divD, Sh.powD, arI, gv_guard, skipS, runB, Sh.envOf, par2S, par3S, gv_ifS, gv_eIf, gv_orB, gv_andB, asB, List.length_cons, List.length_nil, List.replicate, List.map, List.append_nil, List.cons_append, List.nil_append, setRefIt, ix_w, ix_c, ix_r, ix_t, pr_r, pr_t, eq_ii, ne_ii, appendS, lstOf, isNoneD, isND, id_eq, cmpI, gtI, leI, setOwnIt, true_and, wipeE, rng1, catD, negD, repD, ne_w, need_w, popRefM, pop_w, itemsD, Nat.reduceAdd, Nat.reduceSub, Int.reduceLT, lenV_lst, lenV_tup, lenV_str]
      exact ⟨fun _ => ⟨fun _ => poG h (by omega), fun e => (by cases e)⟩, fun e => (by cases e)⟩
    | lst ds =>
      rw [isi2_run (a := "list") rfl, t_yes "list" (by simp)]
      have hil : ItmL b (k - 1) ds := ⟨hx.1, hx.2.1, by have : dpL ds + 1 ≤ k := hx.2.2; omega⟩
      have hk1 : 1 ≤ k := by have : dpL ds + 1 ≤ k := hx.2.2; omega
      simp only [List.map_cons, List.map_nil, forS, setV, List.set_cons_succ, List.set_cons_zero, gv_bind, gv_seq, setS, Sh.retS, getV, List.getElem?_cons_succ, List.getElem?_cons_zero, gv_pure, mulD, addD, modD, Sh.intD, Sh.subD, Sh.divD, Sh.powD, arI, gv_guard, skipS, runB, Sh.envOf, par2S, par3S, gv_ifS, gv_eIf, gv_orB, gv_andB, asB, List.length_cons, List.length_nil, List.replicate, List.map, List.append_nil, List.cons_append, List.nil_append, setRefIt, ix_w, ix_c, ix_r, ix_t, pr_r, pr_t, eq_ii, ne_ii, appendS, lstOf, isNoneD, isND, id_eq, cmpI, gtI, leI, setOwnIt, true_and, wipeE, rng1, catD, negD, repD, ne_w, need_w, popRefM, pop_w, itemsD, Nat.reduceAdd, Nat.reduceSub, Int.reduceLT, lenV_lst, lenV_tup, lenV_str]
      refine ⟨fun e => (by cases e), fun _ => ⟨fun _ => ⟨fun _ => poG h (by omega), fun e => (by cases e)⟩, fun e0 => ?_⟩⟩
      have hne : ds ≠ [] := fun q => by subst q; cases e0
      cases dn with
      | zero =>
        refine ⟨fun _ => ⟨fun _ => poG h (by omega), fun e => (by cases e)⟩, fun e => (by cases e)⟩
      | succ d =>
        refine ⟨fun e => ?_, fun _ => ?_⟩
        · have : ((d + 1 : Nat) : Int) = 0 := by simpa using e
          omega
        refine M.gives_mono (take_g h (by omega) (n := 5) (by decide) (by decide)) fun y st1 ⟨i, e, _, _, h1⟩ => ?_
        subst e
        have ed : ((d + 1 : Nat) : Int) = (d : Int) + 1 := by omega
        have tail := bent_tail (ks := ks) (r := f__law_bent n) (dn := d) hs (fun T st x b k h1 h2 h3 h4 => bent_g hk d n T st x b k (by omega) h1 h2 h3 h4) (d := .lst ds) hil hb hne h1 (by omega) (fun st P hp => hp) (fun st P hp => hp)
          (P := fun rr st' => (match rr.1, Kd.val with | .rt d, _ => pure d | .nx, .val => pure .non | _, _ => M.bad : M D).gives st' fun y st' => Itm (2 * b + 60) (k + 3) y ∧ Dw cs R (T + 6 * (((d + 1 : Nat) : Int) + 1)) st') (fun y st' ρ a b => ⟨a.up (Nat.le_refl _) (by omega), b.up (by omega)⟩)
        simp only [List.map_cons, List.map_nil, forS, setV, List.set_cons_succ, List.set_cons_zero, gv_bind, gv_seq, setS, Sh.retS, getV, List.getElem?_cons_succ, List.getElem?_cons_zero, gv_pure, mulD, addD, modD, Sh.intD, Sh.subD, Sh.divD, Sh.powD, arI, gv_guard, skipS, runB, Sh.envOf, par2S, par3S, gv_ifS, gv_eIf, gv_orB, gv_andB, asB, List.length_cons, List.length_nil, List.replicate, List.map, List.append_nil, List.cons_append, List.nil_append, setRefIt, ix_w, ix_c, ix_r, ix_t, pr_r, pr_t, eq_ii, ne_ii, appendS, lstOf, isNoneD, isND, id_eq, cmpI, gtI, leI, setOwnIt, true_and, wipeE, rng1, catD, negD, repD, ne_w, need_w, popRefM, pop_w, itemsD, Nat.reduceAdd, Nat.reduceSub, Int.reduceLT, lenV_lst, lenV_tup, lenV_str] at tail ⊢
        rw [ed] at *
        exact ⟨fun _ => poG h1 (by omega), fun _ => tail⟩
    | tup ds =>
      rw [isi2_run (a := "tuple") rfl, t_yes "tuple" (by simp)]
      have hil : ItmL b (k - 1) ds := ⟨hx.1, hx.2.1, by have : dpL ds + 1 ≤ k := hx.2.2; omega⟩
      have hk1 : 1 ≤ k := by have : dpL ds + 1 ≤ k := hx.2.2; omega
      simp only [List.map_cons, List.map_nil, forS, setV, List.set_cons_succ, List.set_cons_zero, gv_bind, gv_seq, setS, Sh.retS, getV, List.getElem?_cons_succ, List.getElem?_cons_zero, gv_pure, mulD, addD, modD, Sh.intD, Sh.subD, Sh.divD, Sh.powD, arI, gv_guard, skipS, runB, Sh.envOf, par2S, par3S, gv_ifS, gv_eIf, gv_orB, gv_andB, asB, List.length_cons, List.length_nil, List.replicate, List.map, List.append_nil, List.cons_append, List.nil_append, setRefIt, ix_w, ix_c, ix_r, ix_t, pr_r, pr_t, eq_ii, ne_ii, appendS, lstOf, isNoneD, isND, id_eq, cmpI, gtI, leI, setOwnIt, true_and, wipeE, rng1, catD, negD, repD, ne_w, need_w, popRefM, pop_w, itemsD, Nat.reduceAdd, Nat.reduceSub, Int.reduceLT, lenV_lst, lenV_tup, lenV_str]
      refine ⟨fun e => (by cases e), fun _ => ⟨fun _ => ⟨fun _ => poG h (by omega), fun e => (by cases e)⟩, fun e0 => ?_⟩⟩
      have hne : ds ≠ [] := fun q => by subst q; cases e0
      cases dn with
      | zero =>
        refine ⟨fun _ => ⟨fun _ => poG h (by omega), fun e => (by cases e)⟩, fun e => (by cases e)⟩
      | succ d =>
        refine ⟨fun e => ?_, fun _ => ?_⟩
        · have : ((d + 1 : Nat) : Int) = 0 := by simpa using e
          omega
        refine M.gives_mono (take_g h (by omega) (n := 5) (by decide) (by decide)) fun y st1 ⟨i, e, _, _, h1⟩ => ?_
        subst e
        have ed : ((d + 1 : Nat) : Int) = (d : Int) + 1 := by omega
        have tail := bent_tail (ks := ks) (r := f__law_bent n) (dn := d) hs (fun T st x b k h1 h2 h3 h4 => bent_g hk d n T st x b k (by omega) h1 h2 h3 h4) (d := .tup ds) hil hb hne h1 (by omega) (fun st P hp => hp) (fun st P hp => hp)
          (P := fun rr st' => (match rr.1, Kd.val with | .rt d, _ => pure d | .nx, .val => pure .non | _, _ => M.bad : M D).gives st' fun y st' => Itm (2 * b + 60) (k + 3) y ∧ Dw cs R (T + 6 * (((d + 1 : Nat) : Int) + 1)) st') (fun y st' ρ a b => ⟨a.up (Nat.le_refl _) (by omega), b.up (by omega)⟩)
        simp only [List.map_cons, List.map_nil, forS, setV, List.set_cons_succ, List.set_cons_zero, gv_bind, gv_seq, setS, Sh.retS, getV, List.getElem?_cons_succ, List.getElem?_cons_zero, gv_pure, mulD, addD, modD, Sh.intD, Sh.subD, Sh.divD, Sh.powD, arI, gv_guard, skipS, runB, Sh.envOf, par2S, par3S, gv_ifS, gv_eIf, gv_orB, gv_andB, asB, List.length_cons, List.length_nil, List.replicate, List.map, List.append_nil, List.cons_append, List.nil_append, setRefIt, ix_w, ix_c, ix_r, ix_t, pr_r, pr_t, eq_ii, ne_ii, appendS, lstOf, isNoneD, isND, id_eq, cmpI, gtI, leI, setOwnIt, true_and, wipeE, rng1, catD, negD, repD, ne_w, need_w, popRefM, pop_w, itemsD, Nat.reduceAdd, Nat.reduceSub, Int.reduceLT, lenV_lst, lenV_tup, lenV_str] at tail ⊢
        rw [ed] at *
        exact ⟨fun _ => poG h1 (by omega), fun _ => tail⟩
    | dic _ =>
      rw [isi2_run (a := "dict") rfl, t_no "dict" (by simp)]
      simp only [List.map_cons, List.map_nil, forS, setV, List.set_cons_succ, List.set_cons_zero, gv_bind, gv_seq, setS, Sh.retS, getV, List.getElem?_cons_succ, List.getElem?_cons_zero, gv_pure, mulD, addD, modD, Sh.intD, Sh.subD, Sh.divD, Sh.powD, arI, gv_guard, skipS, runB, Sh.envOf, par2S, par3S, gv_ifS, gv_eIf, gv_orB, gv_andB, asB, List.length_cons, List.length_nil, List.replicate, List.map, List.append_nil, List.cons_append, List.nil_append, setRefIt, ix_w, ix_c, ix_r, ix_t, pr_r, pr_t, eq_ii, ne_ii, appendS, lstOf, isNoneD, isND, id_eq, cmpI, gtI, leI, setOwnIt, true_and, wipeE, rng1, catD, negD, repD, ne_w, need_w, popRefM, pop_w, itemsD, Nat.reduceAdd, Nat.reduceSub, Int.reduceLT, lenV_lst, lenV_tup, lenV_str]
      exact ⟨fun _ => ⟨fun _ => poG h (by omega), fun e => (by cases e)⟩, fun e => (by cases e)⟩
    | obj _ _ => cases hx.1
    | dit _ => cases hx.1
    | ref _ => cases hx.1
    | frl _ => cases hx.1
end K60
namespace K60
open PySem PySem.Spec PyProof.Rows L2 Sh
/-! ### names -/
def abc : List Nat := ("abcdefghijklmnopqrstuvwxyz" : Str).cps.toList
def nameS (s : Str) : Bool := decide (1 ≤ s.length) && decide (s.length ≤ 8) && s.cps.toList.all fun c => decide (c ∈ abc)
def nameB : D → Bool
  | .str s => nameS s
  | _ => false
theorem isi_run {T : String} {x : D} {a : String} (h : x.tyN = some a) {st : Sto} {P : D → Sto → Prop} : (isiD T x).gives st P ↔ P (.bl (isT a T)) st := by
  unfold isiD
  rw [M.gives_bind]
  have hv : view x = (pure x : M D) := by cases x <;> first | rfl | cases h
  rw [hv]
  show M.gives (match x.tyN with | some a => pure (D.bl (isT a T)) | none => M.bad) st P ↔ _
  rw [h]
  exact Iff.rfl
theorem comp_in (ρ : Sh.Env) {i : Nat} (hi : ∀ x, getV (ρ.set i (some x)) i = (pure x : M D)) : ∀ (cs : List Nat) (st : Sto), compD (setV i) (eC (.bl true) |> fun _ => Sh.tYes) (e2 inD (eV i) (eC c_LETTERS)) ρ (cs.map fun c => .str ⟨#[c]⟩) st = .ok (cs.map fun c => .bl (decide (c ∈ abc))) st
  | [], st => rfl
  | c :: cs, st => by
    have ih := comp_in ρ hi cs st
    rw [List.map_cons, List.map_cons]
    unfold compD
    show M.bind (do let x ← getV (ρ.set i (some (.str ⟨#[c]⟩))) i; inD x c_LETTERS) (fun y => do let r ← compD (setV i) Sh.tYes (e2 inD (eV i) (eC c_LETTERS)) ρ (cs.map fun c => .str ⟨#[c]⟩); pure (y :: r)) st = _
    rw [hi]
    show M.bind (compD (setV i) Sh.tYes (e2 inD (eV i) (eC c_LETTERS)) ρ (cs.map fun c => .str ⟨#[c]⟩)) (fun r => pure (D.bl (decide (c ∈ abc)) :: r)) st = _
    unfold M.bind
    rw [show compD (setV i) Sh.tYes (e2 inD (eV i) (eC c_LETTERS)) ρ (cs.map fun c => .str ⟨#[c]⟩) st = _ from ih]
    rfl
theorem bls_map : ∀ bs : List Bool, blsOf (bs.map .bl) = some bs
  | [] => rfl
  | b :: bs => by
    rw [List.map_cons]
    unfold blsOf
    rw [bls_map bs]
theorem gv_andD {m n : Sh.Env → M D} {ρ : Sh.Env} {st : Sto} {P : D → Sto → Prop} : (andD m n ρ).gives st P ↔ (m ρ).gives st fun x st' => (asB x).gives st' fun b st' => (b = true → (n ρ).gives st' P) ∧ (b = false → P (.bl false) st') := by
  unfold andD
  simp only [gv_bind, gv_cond, gv_pure]
theorem gv_orD {m n : Sh.Env → M D} {ρ : Sh.Env} {st : Sto} {P : D → Sto → Prop} : (orD m n ρ).gives st P ↔ (m ρ).gives st fun x st' => (asB x).gives st' fun b st' => (b = true → P (.bl true) st') ∧ (b = false → (n ρ).gives st' P) := by
  unfold orD
  simp only [gv_bind, gv_cond, gv_pure]
theorem gv_chainD {g g2 : D → D → M D} {ma mb mc : Sh.Env → M D} {ρ : Sh.Env} {st : Sto} {P : D → Sto → Prop} : (chainD g g2 ma mb mc ρ).gives st P ↔ (ma ρ).gives st fun x st' => (mb ρ).gives st' fun y st' => (g x y).gives st' fun t st' => (asB t).gives st' fun k st' => (k = true → (mc ρ).gives st' fun z st' => (g2 y z).gives st' P) ∧ (k = false → P (.bl false) st') := by
  unfold chainD
  simp only [gv_bind, gv_cond, gv_pure]
theorem all_bls {bs : List Bool} {st : Sto} {P : D → Sto → Prop} : (quantD allB (.lst (bs.map .bl))).gives st P ↔ P (.bl (bs.all id)) st := by
  show (match blsOf (bs.map .bl) with | some bs => pure (D.bl (allB bs)) | none => M.bad : M D).gives st P ↔ _
  rw [bls_map]
  exact Iff.rfl
theorem s_no : ∀ a ∈ ["NoneType", "bool", "int", "list", "tuple", "dict"], isT a "str" = false := by decide
theorem s_yes : isT "str" "str" = true := by decide
theorem name_str {s : Str} {st : Sto} {P : D → Sto → Prop} (h : P (.bl (nameS s)) st) : (f_is_name [.str s]).gives st P := by
  unfold f_is_name b_is_name
  have hc := comp_in [some (.str s), none] (i := 1) (fun x => rfl) s.cps.toList st
  have hc' : compD (setV 1) Sh.tYes (e2 inD (eV 1) (eC c_LETTERS)) [some (.str s), none] (s.cps.toList.map fun c => .str ⟨#[c]⟩) st = .ok (s.cps.toList.map fun c => .bl (decide (c ∈ abc))) st := hc
  simp only [List.map_cons, List.map_nil, forS, setV, List.set_cons_succ, List.set_cons_zero, gv_bind, gv_seq, setS, Sh.retS, getV, List.getElem?_cons_succ, List.getElem?_cons_zero, gv_pure, mulD, addD, modD, Sh.intD, Sh.subD, Sh.divD, Sh.powD, arI, gv_guard, skipS, runB, Sh.envOf, par2S, par3S, gv_ifS, gv_eIf, gv_orB, gv_andB, asB, List.length_cons, List.length_nil, List.replicate, List.map, List.append_nil, List.cons_append, List.nil_append, setRefIt, ix_w, ix_c, ix_r, ix_t, pr_r, pr_t, eq_ii, ne_ii, appendS, lstOf, isNoneD, isND, id_eq, cmpI, gtI, leI, setOwnIt, true_and, wipeE, rng1, catD, negD, repD, ne_w, need_w, popRefM, pop_w, itemsD, Nat.reduceAdd, Nat.reduceSub, Int.reduceLT, lenV_lst, lenV_tup, lenV_str, gv_andD, gv_chainD, isi_run (x := .str s) (a := "str") rfl, s_yes]
  unfold nameS at h
  refine ⟨fun _ => ?_, fun e => (by cases e)⟩
  by_cases h1 : 1 ≤ s.length
  · have q1 : decide ((1 : Int) ≤ s.length) = true := decide_eq_true (by omega)
    by_cases h2 : s.length ≤ 8
    · have q2 : decide ((s.length : Int) ≤ 8) = true := decide_eq_true (by omega)
      simp only [q1, q2]
      refine ⟨fun _ => ⟨fun _ => ?_, fun e => (by cases e)⟩, fun e => (by cases e)⟩
      show (compD (setV 1) Sh.tYes (e2 inD (eV 1) (eC c_LETTERS)) [some (.str s), none] (s.cps.toList.map fun c => .str ⟨#[c]⟩)).gives st _
      rw [M.gives_ok hc']
      have e3 : (s.cps.toList.map fun c => D.bl (decide (c ∈ abc))) = (s.cps.toList.map fun c => decide (c ∈ abc)).map D.bl := by rw [List.map_map]; rfl
      rw [e3, all_bls]
      rw [List.all_map]
      rw [decide_eq_true h1, decide_eq_true h2] at h
      exact h
    · have q2 : decide ((s.length : Int) ≤ 8) = false := decide_eq_false (by omega)
      simp only [q1, q2]
      refine ⟨fun _ => ⟨fun e => (by cases e), fun _ => ?_⟩, fun e => (by cases e)⟩
      rw [decide_eq_false h2] at h
      simpa using h
  · have q1 : decide ((1 : Int) ≤ s.length) = false := decide_eq_false (by omega)
    simp only [q1]
    refine ⟨fun e => (by cases e), fun _ => ⟨fun e => (by cases e), fun _ => ?_⟩⟩
    rw [decide_eq_false h1] at h
    simpa using h
end K60
namespace K60
open PySem PySem.Spec PyProof.Rows L2 Sh
theorem g_ty {x : D} (hx : x.g = true) : ∃ a ∈ ["NoneType", "bool", "int", "str", "list", "tuple", "dict"], x.tyN = some a := by
  cases x <;> first | (cases hx; done) | exact ⟨_, by simp, rfl⟩
theorem name_g {x : D} (hx : x.g = true) {st : Sto} {P : D → Sto → Prop} (h : P (.bl (nameB x)) st) : (f_is_name [x]).gives st P := by
  by_cases hs : ∃ s, x = .str s
  · obtain ⟨s, rfl⟩ := hs
    exact name_str h
  · obtain ⟨a, ha, ht⟩ := g_ty hx
    have hn : a ∈ ["NoneType", "bool", "int", "list", "tuple", "dict"] := by
      cases x <;> first | (cases hx; done) | (cases ht; simp; done) | exact absurd ⟨_, rfl⟩ hs
    have hb : nameB x = false := by cases x <;> first | rfl | exact absurd ⟨_, rfl⟩ hs
    unfold f_is_name b_is_name
    simp only [List.map_cons, List.map_nil, forS, setV, List.set_cons_succ, List.set_cons_zero, gv_bind, gv_seq, setS, Sh.retS, getV, List.getElem?_cons_succ, List.getElem?_cons_zero, gv_pure, mulD, addD, modD, Sh.intD, Sh.subD, Sh.divD, Sh.powD, arI, gv_guard, skipS, runB, Sh.envOf, par2S, par3S, gv_ifS, gv_eIf, gv_orB, gv_andB, asB, List.length_cons, List.length_nil, List.replicate, List.map, List.append_nil, List.cons_append, List.nil_append, setRefIt, ix_w, ix_c, ix_r, ix_t, pr_r, pr_t, eq_ii, ne_ii, appendS, lstOf, isNoneD, isND, id_eq, cmpI, gtI, leI, setOwnIt, true_and, wipeE, rng1, catD, negD, repD, ne_w, need_w, popRefM, pop_w, itemsD, Nat.reduceAdd, Nat.reduceSub, Int.reduceLT, lenV_lst, lenV_tup, lenV_str, gv_andD, isi_run ht, s_no a hn]
    refine ⟨fun e => (by cases e), fun _ => ?_⟩
    rw [hb] at h
    exact h
theorem comp_out (ρ : Sh.Env) {i : Nat} (hi : ∀ x, getV (ρ.set i (some x)) i = (pure x : M D)) : ∀ (cs : List Nat) (st : Sto), compD (setV i) (tB (e2 notInD (eV i) (eC (.str "abcdefghijklmnopqrstuvwxyz")))) (eV i) ρ (cs.map fun c => .str ⟨#[c]⟩) st = .ok ((cs.filter fun c => !decide (c ∈ abc)).map fun c => .str ⟨#[c]⟩) st
  | [], st => rfl
  | c :: cs, st => by
    have ih := comp_out ρ hi cs st
    rw [List.map_cons]
    unfold compD
    show M.bind (do let x ← (do let x ← getV (ρ.set i (some (.str ⟨#[c]⟩))) i; notInD x (.str "abcdefghijklmnopqrstuvwxyz")); asB x) (fun b => if b = true then (do let y ← getV (ρ.set i (some (.str ⟨#[c]⟩))) i; let r ← compD (setV i) (tB (e2 notInD (eV i) (eC (.str "abcdefghijklmnopqrstuvwxyz")))) (eV i) ρ (cs.map fun c => .str ⟨#[c]⟩); pure (y :: r)) else compD (setV i) (tB (e2 notInD (eV i) (eC (.str "abcdefghijklmnopqrstuvwxyz")))) (eV i) ρ (cs.map fun c => .str ⟨#[c]⟩)) st = _
    rw [hi]
    show (if (!decide (c ∈ abc)) = true then (do let r ← compD (setV i) (tB (e2 notInD (eV i) (eC (.str "abcdefghijklmnopqrstuvwxyz")))) (eV i) ρ (cs.map fun c => .str ⟨#[c]⟩); pure (D.str ⟨#[c]⟩ :: r)) else compD (setV i) (tB (e2 notInD (eV i) (eC (.str "abcdefghijklmnopqrstuvwxyz")))) (eV i) ρ (cs.map fun c => .str ⟨#[c]⟩) : M (List D)) st = _
    by_cases h : c ∈ abc
    · rw [if_neg (by simp [h]), ih, List.filter_cons, if_neg (by simp [h])]
    · rw [if_pos (by simp [h]), List.filter_cons, if_pos (by simp [h]), List.map_cons]
      show M.bind (compD (setV i) (tB (e2 notInD (eV i) (eC (.str "abcdefghijklmnopqrstuvwxyz")))) (eV i) ρ (cs.map fun c => .str ⟨#[c]⟩)) (fun r => pure (D.str ⟨#[c]⟩ :: r)) st = _
      unfold M.bind
      rw [ih]
      rfl
theorem eqL_nil {ds : List D} {st : Sto} {P : D → Sto → Prop} : (eqLD (.lst ds) (.lst [])).gives st P ↔ P (.bl ds.isEmpty) st := by
  show (optB id (eqLB (.lst ds) (.lst []))).gives st P ↔ _
  have h : eqLB (.lst ds) (.lst []) = some ds.isEmpty := by
    unfold eqLB
    cases ds with
    | cons d r => rfl
    | nil => rfl
  rw [h]
  exact Iff.rfl
theorem eq_nil {ss : List Str} {st : Sto} {P : D → Sto → Prop} : (eqLD (.lst (ss.map .str)) (.lst [])).gives st P ↔ P (.bl ss.isEmpty) st := by
  rw [eqL_nil, List.isEmpty_map]
theorem lname_g {x : D} (hx : x.g = true) {st : Sto} {P : D → Sto → Prop} (h : P (.bl (nameB x)) st) : (f__law_is_name [x]).gives st P := by
  by_cases hs : ∃ s, x = .str s
  · obtain ⟨s, rfl⟩ := hs
    have h : P (.bl (nameS s)) st := h
    unfold f__law_is_name b__law_is_name
    have hc := comp_out [some (.str s), none] (i := 1) (fun x => rfl) s.cps.toList st
    simp only [List.map_cons, List.map_nil, forS, setV, List.set_cons_succ, List.set_cons_zero, gv_bind, gv_seq, setS, Sh.retS, getV, List.getElem?_cons_succ, List.getElem?_cons_zero, gv_pure, mulD, addD, modD, Sh.intD, Sh.subD, Sh.divD, Sh.powD, arI, gv_guard, skipS, runB, Sh.envOf, par2S, par3S, gv_ifS, gv_eIf, gv_orB, gv_andB, asB, List.length_cons, List.length_nil, List.replicate, List.map, List.append_nil, List.cons_append, List.nil_append, setRefIt, ix_w, ix_c, ix_r, ix_t, pr_r, pr_t, eq_ii, ne_ii, appendS, lstOf, isNoneD, isND, id_eq, cmpI, gtI, leI, setOwnIt, true_and, wipeE, rng1, catD, negD, repD, ne_w, need_w, popRefM, pop_w, itemsD, Nat.reduceAdd, Nat.reduceSub, Int.reduceLT, lenV_lst, lenV_tup, lenV_str, gv_chainD, isi_run (x := .str s) (a := "str") rfl, s_yes]
    unfold nameS at h
    refine ⟨fun e => (by cases e), fun _ => ?_⟩
    by_cases h1 : 1 ≤ s.length
    · have q1 : decide ((1 : Int) ≤ s.length) = true := decide_eq_true (by omega)
      by_cases h2 : s.length ≤ 8
      · have q2 : decide ((s.length : Int) ≤ 8) = true := decide_eq_true (by omega)
        simp only [q1, q2]
        refine ⟨fun _ => ⟨fun e => (by cases e), fun _ => ?_⟩, fun e => (by cases e)⟩
        show (compD (setV 1) (tB (e2 notInD (eV 1) (eC (.str "abcdefghijklmnopqrstuvwxyz")))) (eV 1) [some (.str s), none] (s.cps.toList.map fun c => .str ⟨#[c]⟩)).gives st _
        rw [M.gives_ok hc]
        have e3 : ((s.cps.toList.filter fun c => !decide (c ∈ abc)).map fun c => D.str ⟨#[c]⟩) = ((s.cps.toList.filter fun c => !decide (c ∈ abc)).map fun c => (⟨#[c]⟩ : Str)).map D.str := by rw [List.map_map]; rfl
        rw [e3, eq_nil]
        rw [decide_eq_true h1, decide_eq_true h2] at h
        have e4 : (((s.cps.toList.filter fun c => !decide (c ∈ abc)).map fun c => (⟨#[c]⟩ : Str)).isEmpty) = (s.cps.toList.all fun c => decide (c ∈ abc)) := by
          induction s.cps.toList with
          | nil => rfl
          | cons c cs ih =>
            rw [List.filter_cons, List.all_cons]
            by_cases h : c ∈ abc
            · simp only [h, decide_true, Bool.not_true, Bool.false_eq_true, if_false, Bool.true_and]
              exact ih
            · simp [h]
        rw [e4]
        exact h
      · have q2 : decide ((s.length : Int) ≤ 8) = false := decide_eq_false (by omega)
        simp only [q1, q2]
        refine ⟨fun _ => ⟨fun _ => ?_, fun e => (by cases e)⟩, fun e => (by cases e)⟩
        rw [decide_eq_false h2] at h
        simpa using h
    · have q1 : decide ((1 : Int) ≤ s.length) = false := decide_eq_false (by omega)
      simp only [q1]
      refine ⟨fun e => (by cases e), fun _ => ⟨fun _ => ?_, fun e => (by cases e)⟩⟩
      rw [decide_eq_false h1] at h
      simpa using h
  · obtain ⟨a, ha, ht⟩ := g_ty hx
    have hn : a ∈ ["NoneType", "bool", "int", "list", "tuple", "dict"] := by
      cases x <;> first | (cases hx; done) | (cases ht; simp; done) | exact absurd ⟨_, rfl⟩ hs
    have hb : nameB x = false := by cases x <;> first | rfl | exact absurd ⟨_, rfl⟩ hs
    unfold f__law_is_name b__law_is_name
    simp only [List.map_cons, List.map_nil, forS, setV, List.set_cons_succ, List.set_cons_zero, gv_bind, gv_seq, setS, Sh.retS, getV, List.getElem?_cons_succ, List.getElem?_cons_zero, gv_pure, mulD, addD, modD, Sh.intD, Sh.subD, Sh.divD, Sh.powD, arI, gv_guard, skipS, runB, Sh.envOf, par2S, par3S, gv_ifS, gv_eIf, gv_orB, gv_andB, asB, List.length_cons, List.length_nil, List.replicate, List.map, List.append_nil, List.cons_append, List.nil_append, setRefIt, ix_w, ix_c, ix_r, ix_t, pr_r, pr_t, eq_ii, ne_ii, appendS, lstOf, isNoneD, isND, id_eq, cmpI, gtI, leI, setOwnIt, true_and, wipeE, rng1, catD, negD, repD, ne_w, need_w, popRefM, pop_w, itemsD, Nat.reduceAdd, Nat.reduceSub, Int.reduceLT, lenV_lst, lenV_tup, lenV_str, isi_run ht, s_no a hn]
    refine ⟨fun _ => ⟨fun _ => ?_, fun e => (by cases e)⟩, fun e => (by cases e)⟩
    rw [hb] at h
    exact h
end K60
namespace K60
open PySem PySem.Spec PyProof.Rows L2 Sh
theorem eq_ss {a b : Str} {st : Sto} {P : D → Sto → Prop} : (eqD (.str a) (.str b)).gives st P ↔ P (.bl (a == b)) st := Iff.rfl
theorem ix0 {y : D} {r : List D} {st : Sto} {P : D → Sto → Prop} : (ixD (.tup (y :: r)) (.int 0)).gives st P ↔ P y st := by
  show (ofO (atI (y :: r) 0)).gives st P ↔ _
  have : atI (y :: r) 0 = some y := by
    unfold atI ixN
    rw [if_pos (by decide), if_pos (by simp only [List.length_cons]; omega)]
    rfl
  rw [this]
  exact Iff.rfl
theorem ix1 {y z : D} {r : List D} {st : Sto} {P : D → Sto → Prop} : (ixD (.tup (y :: z :: r)) (.int 1)).gives st P ↔ P z st := by
  show (ofO (atI (y :: z :: r) 1)).gives st P ↔ _
  have : atI (y :: z :: r) 1 = some z := by
    unfold atI ixN
    rw [if_pos (by decide), if_pos (by simp only [List.length_cons]; omega)]
    rfl
  rw [this]
  exact Iff.rfl
def isBl : D → Bool
  | .bl _ => true
  | _ => false
theorem bl_run {x : D} (hx : x.g = true) {st : Sto} {P : D → Sto → Prop} : (isiD "bool" x).gives st P ↔ P (.bl (isBl x)) st := by
  obtain ⟨a, ha, ht⟩ := g_ty hx
  rw [isi_run ht]
  have : isT a "bool" = isBl x := by
    have t : ∀ a ∈ ["NoneType", "int", "str", "list", "tuple", "dict"], isT a "bool" = false := by decide
    have t2 : isT "bool" "bool" = true := by decide
    cases x <;> first | (cases hx; done) | (cases ht; exact t _ (by simp)) | (cases ht; exact t2)
  rw [this]
def leafT (w : Str) : List D → Bool
  | [] => w == "over"
  | [x] => !(w == "over") && ((w == "told" && isBl x) || (w == "failed" && nameB x))
  | _ => false
def leafB : D → Bool
  | .tup (.str w :: r) => leafT w r
  | _ => false
theorem tu_no : ∀ a ∈ ["NoneType", "bool", "int", "str", "list", "dict"], isT a "tuple" = false := by decide
theorem tu_yes : isT "tuple" "tuple" = true := by decide
theorem ne_told : (("over" : Str) == "told") = false := by decide +kernel
theorem ne_failed : (("over" : Str) == "failed") = false := by decide +kernel
theorem leaf_g2 {x : D} (hx : x.g = true) {st : Sto} {P : D → Sto → Prop} (h : P (.bl (leafB x)) st) : (f_is_leaf [x]).gives st P := by
  obtain ⟨a, ha, ht⟩ := g_ty hx
  unfold f_is_leaf b_is_leaf
  by_cases hs : ∃ ds, x = .tup ds
  · obtain ⟨ds, rfl⟩ := hs
    simp only [List.map_cons, List.map_nil, forS, setV, List.set_cons_succ, List.set_cons_zero, gv_bind, gv_seq, setS, Sh.retS, getV, List.getElem?_cons_succ, List.getElem?_cons_zero, gv_pure, mulD, addD, modD, Sh.intD, Sh.subD, Sh.divD, Sh.powD, arI, gv_guard, skipS, runB, Sh.envOf, par2S, par3S, gv_ifS, gv_eIf, gv_orB, gv_andB, asB, List.length_cons, List.length_nil, List.replicate, List.map, List.append_nil, List.cons_append, List.nil_append, setRefIt, ix_w, ix_c, ix_r, ix_t, pr_r, pr_t, eq_ii, ne_ii, appendS, lstOf, isNoneD, isND, id_eq, cmpI, gtI, leI, setOwnIt, true_and, wipeE, rng1, catD, negD, repD, ne_w, need_w, popRefM, pop_w, itemsD, Nat.reduceAdd, Nat.reduceSub, Int.reduceLT, lenV_lst, lenV_tup, lenV_str, isi_run (x := .tup ds) (a := "tuple") rfl, tu_yes]
    refine ⟨fun e => (by cases e), fun _ => ?_⟩
    cases ds with
    | nil =>
      refine ⟨fun _ => ⟨fun _ => h, fun e => (by cases e)⟩, fun e => (by cases e)⟩
    | cons y r =>
      refine ⟨fun e => ?_, fun _ => ?_⟩
      · have : ((r.length + 1 : Nat) : Int) = 0 := by simpa using e
        omega
      rw [ix0]
      have hg : (y.g && gL r) = true := hx
      simp only [Bool.and_eq_true] at hg
      obtain ⟨b, hb, htb⟩ := g_ty hg.1
      by_cases hy : ∃ w, y = .str w
      · obtain ⟨w, rfl⟩ := hy
        have h : P (.bl (leafT w r)) st := h
        simp only [List.map_cons, List.map_nil, forS, setV, List.set_cons_succ, List.set_cons_zero, gv_bind, gv_seq, setS, Sh.retS, getV, List.getElem?_cons_succ, List.getElem?_cons_zero, gv_pure, mulD, addD, modD, Sh.intD, Sh.subD, Sh.divD, Sh.powD, arI, gv_guard, skipS, runB, Sh.envOf, par2S, par3S, gv_ifS, gv_eIf, gv_orB, gv_andB, asB, List.length_cons, List.length_nil, List.replicate, List.map, List.append_nil, List.cons_append, List.nil_append, setRefIt, ix_w, ix_c, ix_r, ix_t, pr_r, pr_t, eq_ii, ne_ii, appendS, lstOf, isNoneD, isND, id_eq, cmpI, gtI, leI, setOwnIt, true_and, wipeE, rng1, catD, negD, repD, ne_w, need_w, popRefM, pop_w, itemsD, Nat.reduceAdd, Nat.reduceSub, Int.reduceLT, lenV_lst, lenV_tup, lenV_str, isi_run (x := .str w) (a := "str") rfl, s_yes, ix0, eq_ss]
        refine ⟨fun e => (by cases e), fun _ => ⟨fun e1 => ?_, fun e1 => ?_⟩⟩
        · have ew : w = "over" := by simpa using e1
          subst ew
          cases r with
          | nil => exact h
          | cons z r =>
            have : ((((z :: r).length + 1 : Nat) : Int) == 1) = false := by
              have q : ¬ (((z :: r).length + 1 : Nat) : Int) = 1 := by rw [List.length_cons]; omega
              simpa using q
            rw [this]
            cases r with
            | nil => exact h
            | cons _ _ => exact h
        · cases r with
          | nil =>
            refine ⟨fun _ => ?_, fun e => (by cases e)⟩
            have h : P (.bl (w == "over")) st := h
            rw [e1] at h
            exact h
          | cons z r =>
            cases r with
            | cons z2 r2 =>
              refine ⟨fun _ => h, fun e => ?_⟩
              exfalso
              have q : (((z :: z2 :: r2).length + 1 : Nat) : Int) = 2 := by simpa using e
              rw [List.length_cons, List.length_cons] at q
              omega
            | nil =>
              refine ⟨fun e => (by cases e), fun _ => ?_⟩
              have h : P (.bl (!(w == "over") && ((w == "told" && isBl z) || (w == "failed" && nameB z)))) st := h
              rw [e1] at h
              have hz : z.g = true := by
                have : (z.g && true) = true := hg.2
                simpa using this
              simp only [List.map_cons, List.map_nil, forS, setV, List.set_cons_succ, List.set_cons_zero, gv_bind, gv_seq, setS, Sh.retS, getV, List.getElem?_cons_succ, List.getElem?_cons_zero, gv_pure, mulD, addD, modD, Sh.intD, Sh.subD, Sh.divD, Sh.powD, arI, gv_guard, skipS, runB, Sh.envOf, par2S, par3S, gv_ifS, gv_eIf, gv_orB, gv_andB, asB, List.length_cons, List.length_nil, List.replicate, List.map, List.append_nil, List.cons_append, List.nil_append, setRefIt, ix_w, ix_c, ix_r, ix_t, pr_r, pr_t, eq_ii, ne_ii, appendS, lstOf, isNoneD, isND, id_eq, cmpI, gtI, leI, setOwnIt, true_and, wipeE, rng1, catD, negD, repD, ne_w, need_w, popRefM, pop_w, itemsD, Nat.reduceAdd, Nat.reduceSub, Int.reduceLT, lenV_lst, lenV_tup, lenV_str, gv_orD, gv_andD, ix0, ix1, eq_ss, bl_run hz]
              have step : ∀ b1 : Bool, ((w == ("told" : Str)) && isBl z) = b1 → (b1 = true → P (.bl true) st) ∧ (b1 = false → ((w == ("failed" : Str)) = true → (f_is_name [z]).gives st P) ∧ ((w == ("failed" : Str)) = false → P (.bl false) st)) := fun b1 hb1 => by
                rw [hb1] at h
                refine ⟨fun q => ?_, fun q => ⟨fun q2 => name_g hz ?_, fun q2 => ?_⟩⟩
                · rw [q] at h; exact h
                · rw [q, q2] at h; simpa using h
                · rw [q, q2] at h; simpa using h
              refine ⟨fun q => ?_, fun q => ?_⟩
              · have := step (isBl z) (by rw [q]; rfl)
                simpa using this
              · have := step false (by rw [q]; rfl)
                simpa using this
      · have hn : b ∈ ["NoneType", "bool", "int", "list", "tuple", "dict"] := by
          have hg1 := hg.1
          cases y <;> first | (cases hg1; done) | (cases htb; simp; done) | exact absurd ⟨_, rfl⟩ hy
        have hb2 : leafB (.tup (y :: r)) = false := by cases y <;> first | rfl | exact absurd ⟨_, rfl⟩ hy
        rw [hb2] at h
        simp only [List.map_cons, List.map_nil, forS, setV, List.set_cons_succ, List.set_cons_zero, gv_bind, gv_seq, setS, Sh.retS, getV, List.getElem?_cons_succ, List.getElem?_cons_zero, gv_pure, mulD, addD, modD, Sh.intD, Sh.subD, Sh.divD, Sh.powD, arI, gv_guard, skipS, runB, Sh.envOf, par2S, par3S, gv_ifS, gv_eIf, gv_orB, gv_andB, asB, List.length_cons, List.length_nil, List.replicate, List.map, List.append_nil, List.cons_append, List.nil_append, setRefIt, ix_w, ix_c, ix_r, ix_t, pr_r, pr_t, eq_ii, ne_ii, appendS, lstOf, isNoneD, isND, id_eq, cmpI, gtI, leI, setOwnIt, true_and, wipeE, rng1, catD, negD, repD, ne_w, need_w, popRefM, pop_w, itemsD, Nat.reduceAdd, Nat.reduceSub, Int.reduceLT, lenV_lst, lenV_tup, lenV_str, isi_run htb, s_no b hn]
        exact ⟨fun _ => h, fun e => (by cases e)⟩
  · have hn : a ∈ ["NoneType", "bool", "int", "str", "list", "dict"] := by
      cases x <;> first | (cases hx; done) | (cases ht; simp; done) | exact absurd ⟨_, rfl⟩ hs
    have hb : leafB x = false := by cases x <;> first | rfl | exact absurd ⟨_, rfl⟩ hs
    rw [hb] at h
    simp only [List.map_cons, List.map_nil, forS, setV, List.set_cons_succ, List.set_cons_zero, gv_bind, gv_seq, setS, Sh.retS, getV, List.getElem?_cons_succ, List.getElem?_cons_zero, gv_pure, mulD, addD, modD, Sh.intD, Sh.subD, Sh.divD, Sh.powD, arI, gv_guard, skipS, runB, Sh.envOf, par2S, par3S, gv_ifS, gv_eIf, gv_orB, gv_andB, asB, List.length_cons, List.length_nil, List.replicate, List.map, List.append_nil, List.cons_append, List.nil_append, setRefIt, ix_w, ix_c, ix_r, ix_t, pr_r, pr_t, eq_ii, ne_ii, appendS, lstOf, isNoneD, isND, id_eq, cmpI, gtI, leI, setOwnIt, true_and, wipeE, rng1, catD, negD, repD, ne_w, need_w, popRefM, pop_w, itemsD, Nat.reduceAdd, Nat.reduceSub, Int.reduceLT, lenV_lst, lenV_tup, lenV_str, isi_run ht, tu_no a hn]
    exact ⟨fun _ => ⟨fun _ => h, fun e => (by cases e)⟩, fun e => (by cases e)⟩
end K60
namespace K60
open PySem PySem.Spec PyProof.Rows L2 Sh
theorem lleaf_g2 {x : D} (hx : x.g = true) {st : Sto} {P : D → Sto → Prop} (h : P (.bl (leafB x)) st) : (f__law_is_end_of_tree [x]).gives st P := by
  obtain ⟨a, ha, ht⟩ := g_ty hx
  unfold f__law_is_end_of_tree b__law_is_end_of_tree
  by_cases hs : ∃ ds, x = .tup ds
  · obtain ⟨ds, rfl⟩ := hs
    simp only [List.map_cons, List.map_nil, forS, setV, List.set_cons_succ, List.set_cons_zero, gv_bind, gv_seq, setS, Sh.retS, getV, List.getElem?_cons_succ, List.getElem?_cons_zero, gv_pure, mulD, addD, modD, Sh.intD, Sh.subD, Sh.divD, Sh.powD, arI, gv_guard, skipS, runB, Sh.envOf, par2S, par3S, gv_ifS, gv_eIf, gv_orB, gv_andB, asB, List.length_cons, List.length_nil, List.replicate, List.map, List.append_nil, List.cons_append, List.nil_append, setRefIt, ix_w, ix_c, ix_r, ix_t, pr_r, pr_t, eq_ii, ne_ii, appendS, lstOf, isNoneD, isND, id_eq, cmpI, gtI, leI, setOwnIt, true_and, wipeE, rng1, catD, negD, repD, ne_w, need_w, popRefM, pop_w, itemsD, Nat.reduceAdd, Nat.reduceSub, Int.reduceLT, lenV_lst, lenV_tup, lenV_str, isi_run (x := .tup ds) (a := "tuple") rfl, tu_yes]
    refine ⟨fun e => (by cases e), fun _ => ?_⟩
    cases ds with
    | nil =>
      refine ⟨fun _ => ⟨fun _ => h, fun e => (by cases e)⟩, fun e => (by cases e)⟩
    | cons y r =>
      refine ⟨fun e => ?_, fun _ => ?_⟩
      · have : ((r.length + 1 : Nat) : Int) = 0 := by simpa using e
        omega
      rw [ix0]
      have hg : (y.g && gL r) = true := hx
      simp only [Bool.and_eq_true] at hg
      obtain ⟨b, hb, htb⟩ := g_ty hg.1
      by_cases hy : ∃ w, y = .str w
      · obtain ⟨w, rfl⟩ := hy
        have h : P (.bl (leafT w r)) st := h
        simp only [List.map_cons, List.map_nil, forS, setV, List.set_cons_succ, List.set_cons_zero, gv_bind, gv_seq, setS, Sh.retS, getV, List.getElem?_cons_succ, List.getElem?_cons_zero, gv_pure, mulD, addD, modD, Sh.intD, Sh.subD, Sh.divD, Sh.powD, arI, gv_guard, skipS, runB, Sh.envOf, par2S, par3S, gv_ifS, gv_eIf, gv_orB, gv_andB, asB, List.length_cons, List.length_nil, List.replicate, List.map, List.append_nil, List.cons_append, List.nil_append, setRefIt, ix_w, ix_c, ix_r, ix_t, pr_r, pr_t, eq_ii, ne_ii, appendS, lstOf, isNoneD, isND, id_eq, cmpI, gtI, leI, setOwnIt, true_and, wipeE, rng1, catD, negD, repD, ne_w, need_w, popRefM, pop_w, itemsD, Nat.reduceAdd, Nat.reduceSub, Int.reduceLT, lenV_lst, lenV_tup, lenV_str, isi_run (x := .str w) (a := "str") rfl, s_yes, ix0, eq_ss]
        refine ⟨fun e => (by cases e), fun _ => ?_⟩
        cases r with
        | nil =>
          refine ⟨fun _ => ?_, fun e => (by cases e)⟩
          exact h
        | cons z r =>
          have q1 : ((((z :: r).length + 1 : Nat) : Int) == 1) = false := by
            have q : ¬ (((z :: r).length + 1 : Nat) : Int) = 1 := by rw [List.length_cons]; omega
            simpa using q
          refine ⟨fun e => ?_, fun _ => ?_⟩
          · exfalso
            have e : ((((z :: r).length + 1 : Nat) : Int) == 1) = true := e
            rw [q1] at e
            cases e
          cases r with
          | cons z2 r2 =>
            refine ⟨fun _ => h, fun e => ?_⟩
            exfalso
            have q : (((z :: z2 :: r2).length + 1 : Nat) : Int) = 2 := by simpa using e
            rw [List.length_cons, List.length_cons] at q
            omega
          | nil =>
            refine ⟨fun e => (by cases e), fun _ => ?_⟩
            have h : P (.bl (!(w == "over") && ((w == "told" && isBl z) || (w == "failed" && nameB z)))) st := h
            have hov : ∀ b : Bool, (w == ("over" : Str)) = true → ((w == ("told" : Str)) && b) = false ∧ (w == ("failed" : Str)) = false := fun b e => by
              have ew : w = "over" := by simpa using e
              subst ew
              exact ⟨by rw [ne_told]; rfl, ne_failed⟩
            have hz : z.g = true := by
              have : (z.g && true) = true := hg.2
              simpa using this
            have h' : P (.bl ((w == "told" && isBl z) || (w == "failed" && nameB z))) st := by
              cases e : (w == ("over" : Str)) with
              | false => rw [e] at h; simpa using h
              | true =>
                obtain ⟨q1, q2⟩ := hov (isBl z) e
                rw [e, q1, q2] at h
                rw [q1, q2]
                simpa using h
            simp only [List.map_cons, List.map_nil, forS, setV, List.set_cons_succ, List.set_cons_zero, gv_bind, gv_seq, setS, Sh.retS, getV, List.getElem?_cons_succ, List.getElem?_cons_zero, gv_pure, mulD, addD, modD, Sh.intD, Sh.subD, Sh.divD, Sh.powD, arI, gv_guard, skipS, runB, Sh.envOf, par2S, par3S, gv_ifS, gv_eIf, gv_orB, gv_andB, asB, List.length_cons, List.length_nil, List.replicate, List.map, List.append_nil, List.cons_append, List.nil_append, setRefIt, ix_w, ix_c, ix_r, ix_t, pr_r, pr_t, eq_ii, ne_ii, appendS, lstOf, isNoneD, isND, id_eq, cmpI, gtI, leI, setOwnIt, true_and, wipeE, rng1, catD, negD, repD, ne_w, need_w, popRefM, pop_w, itemsD, Nat.reduceAdd, Nat.reduceSub, Int.reduceLT, lenV_lst, lenV_tup, lenV_str, gv_orD, gv_andD, ix0, ix1, eq_ss, bl_run hz]
            have step : ∀ b1 : Bool, ((w == ("told" : Str)) && isBl z) = b1 → (b1 = true → P (.bl true) st) ∧ (b1 = false → ((w == ("failed" : Str)) = true → (f__law_is_name [z]).gives st P) ∧ ((w == ("failed" : Str)) = false → P (.bl false) st)) := fun b1 hb1 => by
              rw [hb1] at h'
              refine ⟨fun q => ?_, fun q => ⟨fun q2 => lname_g hz ?_, fun q2 => ?_⟩⟩
              · rw [q] at h'; exact h'
              · rw [q, q2] at h'; simpa using h'
              · rw [q, q2] at h'; simpa using h'
            refine ⟨fun q => ?_, fun q => ?_⟩
            · have := step (isBl z) (by rw [q]; rfl)
              simpa using this
            · have := step false (by rw [q]; rfl)
              simpa using this
      · have hn : b ∈ ["NoneType", "bool", "int", "list", "tuple", "dict"] := by
          have hg1 := hg.1
          cases y <;> first | (cases hg1; done) | (cases htb; simp; done) | exact absurd ⟨_, rfl⟩ hy
        have hb2 : leafB (.tup (y :: r)) = false := by cases y <;> first | rfl | exact absurd ⟨_, rfl⟩ hy
        rw [hb2] at h
        simp only [List.map_cons, List.map_nil, forS, setV, List.set_cons_succ, List.set_cons_zero, gv_bind, gv_seq, setS, Sh.retS, getV, List.getElem?_cons_succ, List.getElem?_cons_zero, gv_pure, mulD, addD, modD, Sh.intD, Sh.subD, Sh.divD, Sh.powD, arI, gv_guard, skipS, runB, Sh.envOf, par2S, par3S, gv_ifS, gv_eIf, gv_orB, gv_andB, asB, List.length_cons, List.length_nil, List.replicate, List.map, List.append_nil, List.cons_append, List.nil_append, setRefIt, ix_w, ix_c, ix_r, ix_t, pr_r, pr_t, eq_ii, ne_ii, appendS, lstOf, isNoneD, isND, id_eq, cmpI, gtI, leI, setOwnIt, true_and, wipeE, rng1, catD, negD, repD, ne_w, need_w, popRefM, pop_w, itemsD, Nat.reduceAdd, Nat.reduceSub, Int.reduceLT, lenV_lst, lenV_tup, lenV_str, isi_run htb, s_no b hn]
        exact ⟨fun _ => h, fun e => (by cases e)⟩
  · have hn : a ∈ ["NoneType", "bool", "int", "str", "list", "dict"] := by
      cases x <;> first | (cases hx; done) | (cases ht; simp; done) | exact absurd ⟨_, rfl⟩ hs
    have hb : leafB x = false := by cases x <;> first | rfl | exact absurd ⟨_, rfl⟩ hs
    rw [hb] at h
    simp only [List.map_cons, List.map_nil, forS, setV, List.set_cons_succ, List.set_cons_zero, gv_bind, gv_seq, setS, Sh.retS, getV, List.getElem?_cons_succ, List.getElem?_cons_zero, gv_pure, mulD, addD, modD, Sh.intD, Sh.subD, Sh.divD, Sh.powD, arI, gv_guard, skipS, runB, Sh.envOf, par2S, par3S, gv_ifS, gv_eIf, gv_orB, gv_andB, asB, List.length_cons, List.length_nil, List.replicate, List.map, List.append_nil, List.cons_append, List.nil_append, setRefIt, ix_w, ix_c, ix_r, ix_t, pr_r, pr_t, eq_ii, ne_ii, appendS, lstOf, isNoneD, isND, id_eq, cmpI, gtI, leI, setOwnIt, true_and, wipeE, rng1, catD, negD, repD, ne_w, need_w, popRefM, pop_w, itemsD, Nat.reduceAdd, Nat.reduceSub, Int.reduceLT, lenV_lst, lenV_tup, lenV_str, isi_run ht, tu_no a hn]
    exact ⟨fun _ => ⟨fun _ => h, fun e => (by cases e)⟩, fun e => (by cases e)⟩
end K60
namespace K60
open PySem PySem.Spec PyProof.Rows L2 Sh
/-! ### shapes: one pure function -/
def sonW : D → Option Str
  | .tup [.str w, _] => some w
  | _ => none
def sonS : D → D
  | .tup [_, x] => x
  | d => d
def sonsW : List D → Option (List Str)
  | [] => some []
  | s :: r => match sonW s, sonsW r with
    | some w, some ws => some (w :: ws)
    | _, _ => none
def wSure : List Str := ["no", "yes"]
def wUnsure : List Str := ["fail", "no", "yes"]
abbrev Knd : Type := List (Str × List Str)
def getW (K : Knd) (w : Str) : Option (List Str) := (K.find? fun p => decide (p.1 = w)).map (·.2)
def putW (K : Knd) (w : Str) (ws : List Str) : Knd := if (K.any fun p => decide (p.1 = w)) = true then K.map (fun p => if p.1 = w then (p.1, ws) else p) else K ++ [(w, ws)]
def shB : Nat → D → Knd → Bool × Knd
  | 0, _, K => (false, K)
  | n + 1, d, K => if leafB d = true then (true, K) else match d with
    | .tup [.str w, .tup sons] => if nameS w = true then match sonsW sons with
        | some ws => if (decide (ws = wSure) || decide (ws = wUnsure)) && decide ((getW K w).getD ws = ws) then sons.foldl (fun acc s => ((shB n (sonS s) acc.2).1 && acc.1, (shB n (sonS s) acc.2).2)) (true, putW K w ws) else (false, K)
        | none => (false, K)
      else (false, K)
    | _ => (false, K)
/-- kinds as the program keeps them (c: tuples), as the law does (c: lists) -/
def kD (c : List D → D) (K : Knd) : List (D × D) := K.map fun p => (.str p.1, c (p.2.map .str))
theorem kD_get {c : List D → D} {w : Str} : ∀ {K : Knd}, dgetK (kD c K) (.inr w) = (getW K w).map fun ws => c (ws.map .str)
  | [] => rfl
  | p :: K => by
    have ih := kD_get (c := c) (w := w) (K := K)
    show dgetK ((D.str p.1, c (p.2.map .str)) :: kD c K) (.inr w) = _
    by_cases e : p.1 = w
    · rw [dget_eq (show (D.str p.1).key? = some (.inr w) by show some (Sum.inr p.1) = _; rw [e])]
      unfold getW
      rw [List.find?_cons, decide_eq_true e]
      rfl
    · rw [dget_ne (show ¬ (D.str p.1).key? = some (.inr w) from fun q => e (by cases q; rfl)), ih]
      unfold getW
      rw [List.find?_cons, decide_eq_false e]
theorem kD_put {c : List D → D} {w : Str} {ws : List Str} {K : Knd} : dputK (kD c K) (.inr w) (.str w) (c (ws.map .str)) = kD c (putW K w ws) := by
  have hk : ∀ p : Str × List Str, (D.str p.1).key? = some (.inr w) ↔ p.1 = w := fun p => by
    show some (Sum.inr p.1) = some (Sum.inr w) ↔ _
    constructor
    · intro h; cases h; rfl
    · intro h; rw [h]
  unfold dputK putW kD
  have ha : ((K.map fun p => (D.str p.1, c (p.2.map .str))).any fun p => decide (p.1.key? = some (.inr w))) = K.any fun p => decide (p.1 = w) := by
    rw [List.any_map]
    congr 1
    funext p
    show decide ((D.str p.1).key? = some (.inr w)) = _
    simp only [hk]
  rw [ha]
  split
  · rw [List.map_map, List.map_map]
    congr 1
    funext p
    show (if (D.str p.1).key? = some (.inr w) then (D.str p.1, c (ws.map .str)) else (D.str p.1, c (p.2.map .str))) = (D.str (if p.1 = w then (p.1, ws) else p).1, c ((if p.1 = w then (p.1, ws) else p).2.map .str))
    by_cases h : p.1 = w
    · rw [if_pos ((hk p).mpr h), if_pos h]
    · rw [if_neg (fun q => h ((hk p).mp q)), if_neg h]
  · simp
theorem son_g {x : D} (hx : x.g = true) {st : Sto} {P : D → Sto → Prop} (h : P (.bl (sonW x).isSome) st) : (f_is_son [x]).gives st P := by
  obtain ⟨a, ha, ht⟩ := g_ty hx
  unfold f_is_son b_is_son
  by_cases hs : ∃ ds, x = .tup ds
  · obtain ⟨ds, rfl⟩ := hs
    simp only [List.map_cons, List.map_nil, forS, setV, List.set_cons_succ, List.set_cons_zero, gv_bind, gv_seq, setS, Sh.retS, getV, List.getElem?_cons_succ, List.getElem?_cons_zero, gv_pure, mulD, addD, modD, Sh.intD, Sh.subD, Sh.divD, Sh.powD, arI, gv_guard, skipS, runB, Sh.envOf, par2S, par3S, gv_ifS, gv_eIf, gv_orB, gv_andB, asB, List.length_cons, List.length_nil, List.replicate, List.map, List.append_nil, List.cons_append, List.nil_append, setRefIt, ix_w, ix_c, ix_r, ix_t, pr_r, pr_t, eq_ii, ne_ii, appendS, lstOf, isNoneD, isND, id_eq, cmpI, gtI, leI, setOwnIt, true_and, wipeE, rng1, catD, negD, repD, ne_w, need_w, popRefM, pop_w, itemsD, Nat.reduceAdd, Nat.reduceSub, Int.reduceLT, lenV_lst, lenV_tup, lenV_str, gv_andD, isi_run (x := .tup ds) (a := "tuple") rfl, tu_yes]
    refine ⟨fun _ => ?_, fun e => (by cases e)⟩
    match ds, hx, h with
    | [], _, h => exact ⟨fun e => (by cases e), fun _ => h⟩
    | [y], _, h => exact ⟨fun e => (by cases e), fun _ => by cases y <;> exact h⟩
    | y :: z :: z2 :: r, _, h =>
      have e1 : ((((y :: z :: z2 :: r).length : Nat) : Int) == 2) = false := by
        have q : ¬ (((y :: z :: z2 :: r).length : Nat) : Int) = 2 := by simp only [List.length_cons]; omega
        simpa using q
      refine ⟨fun e => ?_, fun _ => by cases y <;> exact h⟩
      exfalso
      have e : ((((y :: z :: z2 :: r).length : Nat) : Int) == 2) = true := e
      rw [e1] at e
      cases e
    | [y, z], hx, h =>
      refine ⟨fun _ => ?_, fun e => (by cases e)⟩
      rw [ix0]
      have hg : (y.g && gL [z]) = true := hx
      simp only [Bool.and_eq_true] at hg
      obtain ⟨b, hb, htb⟩ := g_ty hg.1
      rw [isi_run htb]
      have : isT b "str" = (sonW (.tup [y, z])).isSome := by
        have hg1 := hg.1
        cases y <;> first | (cases hg1; done) | (cases htb; exact s_no _ (by simp)) | (cases htb; exact s_yes)
      rw [this]
      exact h
  · have hn : a ∈ ["NoneType", "bool", "int", "str", "list", "dict"] := by
      cases x <;> first | (cases hx; done) | (cases ht; simp; done) | exact absurd ⟨_, rfl⟩ hs
    have hb : (sonW x).isSome = false := by cases x <;> first | rfl | exact absurd ⟨_, rfl⟩ hs
    rw [hb] at h
    simp only [List.map_cons, List.map_nil, forS, setV, List.set_cons_succ, List.set_cons_zero, gv_bind, gv_seq, setS, Sh.retS, getV, List.getElem?_cons_succ, List.getElem?_cons_zero, gv_pure, mulD, addD, modD, Sh.intD, Sh.subD, Sh.divD, Sh.powD, arI, gv_guard, skipS, runB, Sh.envOf, par2S, par3S, gv_ifS, gv_eIf, gv_orB, gv_andB, asB, List.length_cons, List.length_nil, List.replicate, List.map, List.append_nil, List.cons_append, List.nil_append, setRefIt, ix_w, ix_c, ix_r, ix_t, pr_r, pr_t, eq_ii, ne_ii, appendS, lstOf, isNoneD, isND, id_eq, cmpI, gtI, leI, setOwnIt, true_and, wipeE, rng1, catD, negD, repD, ne_w, need_w, popRefM, pop_w, itemsD, Nat.reduceAdd, Nat.reduceSub, Int.reduceLT, lenV_lst, lenV_tup, lenV_str, gv_andD, isi_run ht, tu_no a hn]
    exact ⟨fun e => (by cases e), fun _ => h⟩
end K60
namespace K60
open PySem PySem.Spec PyProof.Rows L2 Sh
/-- a comprehension without tests, its store followed by K -/
def walkK {κ : Type} (F : D → κ → D × κ) : List D → κ → List D × κ
  | [], K => ([], K)
  | s :: r, K => ((F s K).1 :: (walkK F r (F s K).2).1, (walkK F r (F s K).2).2)
theorem comp_walk {κ : Type} {F : D → κ → D × κ} {St : κ → Sto} {i : Nat} {e : Sh.Env → M D} {ρ : Sh.Env} : ∀ (xs : List D) (K : κ) (P : List D → Sto → Prop),
    (∀ x ∈ xs, ∀ (K : κ) (P : D → Sto → Prop), P (F x K).1 (St (F x K).2) → (e (ρ.set i (some x))).gives (St K) P) → P (walkK F xs K).1 (St (walkK F xs K).2) → (compD (setV i) Sh.tYes e ρ xs).gives (St K) P
  | [], K, P, _, h => h
  | x :: xs, K, P, he, h => by
    unfold compD
    show M.gives (do let y ← e (ρ.set i (some x)); let r ← compD (setV i) Sh.tYes e ρ xs; pure (y :: r)) (St K) P
    rw [M.gives_bind]
    refine he x List.mem_cons_self K _ ?_
    rw [M.gives_bind]
    exact comp_walk xs (F x K).2 _ (fun z hz => he z (List.mem_cons_of_mem _ hz)) h
/-- .. that does not touch the store -/
theorem comp_pure {F : D → D} {i : Nat} {e : Sh.Env → M D} {ρ : Sh.Env} {st : Sto} {xs : List D} {P : List D → Sto → Prop}
    (he : ∀ x ∈ xs, ∀ (P : D → Sto → Prop), P (F x) st → (e (ρ.set i (some x))).gives st P) (h : P (xs.map F) st) : (compD (setV i) Sh.tYes e ρ xs).gives st P := by
  have w : ∀ xs : List D, walkK (fun x (_ : Unit) => (F x, ())) xs () = (xs.map F, ()) := fun xs => by
    induction xs with
    | nil => rfl
    | cons x xs ih => show (F x :: (walkK (fun x (_ : Unit) => (F x, ())) xs ()).1, _) = _; rw [ih]; rfl
  refine comp_walk (κ := Unit) (F := fun x _ => (F x, ())) (St := fun _ => st) xs () P (fun x hx _ P hp => he x hx P hp) ?_
  rw [w]
  exact h
/-- .. with a test that keeps what gives false: as the law's own shape asks -/
theorem comp_keep {κ : Type} {F : D → κ → Bool × κ} {St : κ → Sto} {i : Nat} {t : Sh.Env → M Bool} {ρ : Sh.Env} (hi : ∀ x, getV (ρ.set i (some x)) i = (pure x : M D)) : ∀ (xs : List D) (K : κ) (P : List D → Sto → Prop),
    (∀ x ∈ xs, ∀ (K : κ) (P : Bool → Sto → Prop), P (F x K).1 (St (F x K).2) → (t (ρ.set i (some x))).gives (St K) P) →
    (∀ ys, (ys = [] ↔ (xs.foldl (fun acc x => (acc.1 && !(F x acc.2).1, (F x acc.2).2)) (true, K)).1 = true) → P ys (St (xs.foldl (fun acc x => (acc.1 && !(F x acc.2).1, (F x acc.2).2)) (true, K)).2)) → (compD (setV i) t (eV i) ρ xs).gives (St K) P
  | [], K, P, _, h => h [] (by simp)
  | x :: xs, K, P, ht, h => by
    have acc : ∀ (xs : List D) (b : Bool) (K : κ), (xs.foldl (fun acc x => (acc.1 && !(F x acc.2).1, (F x acc.2).2)) (b, K)) = (b && (xs.foldl (fun acc x => (acc.1 && !(F x acc.2).1, (F x acc.2).2)) (true, K)).1, (xs.foldl (fun acc x => (acc.1 && !(F x acc.2).1, (F x acc.2).2)) (true, K)).2) := fun xs => by
      induction xs with
      | nil => intro b K; simp
      | cons y ys ih =>
        intro b K
        rw [List.foldl_cons, List.foldl_cons, ih (b && !(F y K).1), ih (true && !(F y K).1)]
        simp [Bool.and_assoc]
    unfold compD
    show M.gives (do let b ← t (ρ.set i (some x)); if b = true then (do let y ← eV i (ρ.set i (some x)); let r ← compD (setV i) t (eV i) ρ xs; pure (y :: r)) else compD (setV i) t (eV i) ρ xs) (St K) P
    rw [M.gives_bind]
    refine ht x List.mem_cons_self K _ ?_
    have h0 : ∀ ys, (ys = [] ↔ (!(F x K).1 && (xs.foldl (fun acc x => (acc.1 && !(F x acc.2).1, (F x acc.2).2)) (true, (F x K).2)).1) = true) → P ys (St (xs.foldl (fun acc x => (acc.1 && !(F x acc.2).1, (F x acc.2).2)) (true, (F x K).2)).2) := fun ys hys => by
      have := h ys
      rw [List.foldl_cons, acc xs (true && !(F x K).1)] at this
      exact this (by simpa using hys)
    cases hb : (F x K).1 with
    | true =>
      rw [if_pos rfl, M.gives_bind]
      show M.gives (getV (ρ.set i (some x)) i) _ _
      rw [hi]
      show M.gives (do let r ← compD (setV i) t (eV i) ρ xs; pure (x :: r)) (St (F x K).2) P
      rw [M.gives_bind]
      refine comp_keep hi xs (F x K).2 _ (fun z hz => ht z (List.mem_cons_of_mem _ hz)) fun ys _ => ?_
      exact h0 (x :: ys) (by rw [hb]; simp)
    | false =>
      rw [if_neg (by simp)]
      refine comp_keep hi xs (F x K).2 _ (fun z hz => ht z (List.mem_cons_of_mem _ hz)) fun ys hys => ?_
      exact h0 ys (by rw [hb]; simpa using hys)
end K60
namespace K60
open PySem PySem.Spec PyProof.Rows L2 Sh
theorem eqvAll_strs : ∀ as bs : List Str, PyData.eqvAll (as.map .str) (bs.map .str) = decide (as = bs)
  | [], [] => rfl
  | [], _ :: _ => rfl
  | _ :: _, [] => rfl
  | a :: as, b :: bs => by
    show (PyData.eqv (.str a) (.str b) && PyData.eqvAll (as.map .str) (bs.map .str)) = _
    rw [eqvAll_strs as bs]
    show ((a == b) && decide (as = bs)) = _
    by_cases h : a = b <;> by_cases h2 : as = bs <;> simp [h, h2]
theorem py_tup (ws : List Str) : (D.tup (ws.map .str)).py = some (.tuple (ws.map .str)) := by unfold D.py; rw [pyL_strs]
theorem py_lst (ws : List Str) : (D.lst (ws.map .str)).py = some (.list (ws.map .str)) := by unfold D.py; rw [pyL_strs]
theorem dep_tup (ws : List Str) : (PyData.tuple (ws.map .str)).depth = 1 := by show PyData.depthAll (ws.map .str) + 1 = 1; rw [depth_strs]
theorem dep_lst (ws : List Str) : (PyData.list (ws.map .str)).depth = 1 := by show PyData.depthAll (ws.map .str) + 1 = 1; rw [depth_strs]
theorem ne_tup {as bs : List Str} {st : Sto} {P : D → Sto → Prop} : (neD (.tup (as.map .str)) (.tup (bs.map .str))).gives st P ↔ P (.bl (!decide (as = bs))) st := by
  show (optB not (eqB (.tup (as.map .str)) (.tup (bs.map .str)))).gives st P ↔ _
  have h : eqB (.tup (as.map .str)) (.tup (bs.map .str)) = some (decide (as = bs)) := by
    unfold eqB
    rw [py_tup, py_tup]
    simp only
    rw [if_pos (by rw [dep_tup, dep_tup]; decide)]
    show some (PyData.eqvAll _ _) = _
    rw [eqvAll_strs]
  rw [h]
  exact Iff.rfl
theorem ne_lst {as bs : List Str} {st : Sto} {P : D → Sto → Prop} : (neD (.lst (as.map .str)) (.lst (bs.map .str))).gives st P ↔ P (.bl (!decide (as = bs))) st := by
  show (optB not (eqB (.lst (as.map .str)) (.lst (bs.map .str)))).gives st P ↔ _
  have h : eqB (.lst (as.map .str)) (.lst (bs.map .str)) = some (decide (as = bs)) := by
    unfold eqB
    rw [py_lst, py_lst]
    simp only
    rw [if_pos (by rw [dep_lst, dep_lst]; decide)]
    show some (PyData.eqvAll _ _) = _
    rw [eqvAll_strs]
  rw [h]
  exact Iff.rfl
theorem notIn_tup {ws : List Str} {st : Sto} {P : D → Sto → Prop} : (notInD (.tup (ws.map .str)) (.tup [.tup (wSure.map .str), .tup (wUnsure.map .str)])).gives st P ↔ P (.bl (!(decide (ws = wSure) || decide (ws = wUnsure)))) st := by
  show (optB not (inSeq (.tup (ws.map .str)) [.tup (wSure.map .str), .tup (wUnsure.map .str)])).gives st P ↔ _
  have h : inSeq (.tup (ws.map .str)) [.tup (wSure.map .str), .tup (wUnsure.map .str)] = some (decide (ws = wSure) || decide (ws = wUnsure)) := by
    have e : pyL [.tup (wSure.map .str), .tup (wUnsure.map .str)] = some [.tuple (wSure.map .str), .tuple (wUnsure.map .str)] := by
      unfold pyL; rw [py_tup]; unfold pyL; rw [py_tup]; rfl
    unfold inSeq
    rw [py_tup, e]
    simp only
    rw [if_pos (by rw [dep_tup]; omega)]
    show some (PyData.eqvAll (wSure.map .str) (ws.map .str) || (PyData.eqvAll (wUnsure.map .str) (ws.map .str) || false)) = _
    rw [eqvAll_strs, eqvAll_strs, Bool.or_false]
    congr 2 <;> exact decide_eq_decide.mpr ⟨Eq.symm, Eq.symm⟩
  rw [h]
  exact Iff.rfl
theorem notIn_lst {ws : List Str} {st : Sto} {P : D → Sto → Prop} : (notInD (.lst (ws.map .str)) (.tup [.lst (wSure.map .str), .lst (wUnsure.map .str)])).gives st P ↔ P (.bl (!(decide (ws = wSure) || decide (ws = wUnsure)))) st := by
  show (optB not (inSeq (.lst (ws.map .str)) [.lst (wSure.map .str), .lst (wUnsure.map .str)])).gives st P ↔ _
  have h : inSeq (.lst (ws.map .str)) [.lst (wSure.map .str), .lst (wUnsure.map .str)] = some (decide (ws = wSure) || decide (ws = wUnsure)) := by
    have e : pyL [.lst (wSure.map .str), .lst (wUnsure.map .str)] = some [.list (wSure.map .str), .list (wUnsure.map .str)] := by
      unfold pyL; rw [py_lst]; unfold pyL; rw [py_lst]; rfl
    unfold inSeq
    rw [py_lst, e]
    simp only
    rw [if_pos (by rw [dep_lst]; omega)]
    show some (PyData.eqvAll (wSure.map .str) (ws.map .str) || (PyData.eqvAll (wUnsure.map .str) (ws.map .str) || false)) = _
    rw [eqvAll_strs, eqvAll_strs, Bool.or_false]
    congr 2 <;> exact decide_eq_decide.mpr ⟨Eq.symm, Eq.symm⟩
  rw [h]
  exact Iff.rfl
theorem sonsW_none : ∀ {sons : List D}, (sons.map fun x => (sonW x).isSome).all id = false → sonsW sons = none
  | [], h => by cases h
  | s :: r, h => by
    unfold sonsW
    cases e : sonW s with
    | none => rfl
    | some w =>
      have : (r.map fun x => (sonW x).isSome).all id = false := by
        rw [List.map_cons, List.all_cons, e] at h
        simpa using h
      rw [sonsW_none this]
def sonF (x : D) : D := match sonW x with
  | some w => .str w
  | none => .non
theorem sonsW_some : ∀ {sons : List D}, (sons.map fun x => (sonW x).isSome).all id = true → ∃ ws, sonsW sons = some ws ∧ sons.map sonF = ws.map .str ∧ ws.length = sons.length
  | [], _ => ⟨[], rfl, rfl, rfl⟩
  | s :: r, h => by
    rw [List.map_cons, List.all_cons, Bool.and_eq_true] at h
    obtain ⟨w, e⟩ := Option.isSome_iff_exists.mp h.1
    obtain ⟨ws, e1, e2, e3⟩ := sonsW_some h.2
    refine ⟨w :: ws, ?_, ?_, by simp [e3]⟩
    · unfold sonsW; rw [e, e1]
    · rw [List.map_cons, List.map_cons, e2]
      show sonF s :: _ = _
      unfold sonF
      rw [e]
theorem son_is {x : D} {w : Str} (h : sonW x = some w) : ∃ y, x = .tup [.str w, y] := by
  unfold sonW at h
  split at h
  · cases h; exact ⟨_, rfl⟩
  · cases h
theorem need_l {l : Nat} {kvs : List (D × D)} {st : Sto} (h : st[l]? = some (.dic kvs)) {P : Unit → Sto → Prop} : (needDic (.ref l)).gives st P ↔ P () st := by
  have e : needDic (.ref l) st = .ok () st := by
    show M.bind (view (.ref l)) _ st = _
    unfold M.bind view
    simp only [h]
    rfl
  rw [M.gives_ok e]
theorem dg_l {l : Nat} {kvs : List (D × D)} {st : Sto} (h : st[l]? = some (.dic kvs)) {w : Str} {z : D} {P : D → Sto → Prop} : (dget2D (.ref l) (.str w) z).gives st P ↔ P ((dgetK kvs (.inr w)).getD z) st := by
  have e : dget2D (.ref l) (.str w) z st = .ok ((dgetK kvs (.inr w)).getD z) st := by
    show M.bind (view (.ref l)) _ st = _
    unfold M.bind view
    simp only [h]
    rfl
  rw [M.gives_ok e]
theorem put_l {l : Nat} {kvs : List (D × D)} {st : Sto} (h : st[l]? = some (.dic kvs)) (hl : kvs.length < 16777216) {w : Str} {v : D} {P : Unit → Sto → Prop} : (putRef (.ref l) (.str w) v).gives st P ↔ P () (st.set l (.dic (dputK kvs (.inr w) (.str w) v))) := by
  have e : putRef (.ref l) (.str w) v st = .ok () (st.set l (.dic (dputK kvs (.inr w) (.str w) v))) := by
    unfold putRef
    simp only [h, setIt_dic hl]
  rw [M.gives_ok e]
theorem comp_walkI {κ : Type} {F : D → κ → D × κ} {St : κ → Sto} {I : List D → κ → Prop} {i : Nat} {e : Sh.Env → M D} {ρ : Sh.Env} (hI : ∀ x r K, I (x :: r) K → I r (F x K).2) : ∀ (xs : List D) (K : κ) (P : List D → Sto → Prop), I xs K →
    (∀ x r K (P : D → Sto → Prop), x ∈ xs → I (x :: r) K → P (F x K).1 (St (F x K).2) → (e (ρ.set i (some x))).gives (St K) P) → P (walkK F xs K).1 (St (walkK F xs K).2) → (compD (setV i) Sh.tYes e ρ xs).gives (St K) P
  | [], K, P, _, _, h => h
  | x :: xs, K, P, hi, he, h => by
    unfold compD
    show M.gives (do let y ← e (ρ.set i (some x)); let r ← compD (setV i) Sh.tYes e ρ xs; pure (y :: r)) (St K) P
    rw [M.gives_bind]
    refine he x xs K _ List.mem_cons_self hi ?_
    rw [M.gives_bind]
    exact comp_walkI hI xs (F x K).2 _ (hI x xs K hi) (fun z r K P hz => he z r K P (List.mem_cons_of_mem _ hz)) h
theorem putW_len {K : Knd} {w : Str} {ws : List Str} : (putW K w ws).length ≤ K.length + 1 := by
  unfold putW
  split <;> simp
theorem son_bk {s : D} : (sonS s).bk ≤ s.bk := by
  unfold sonS
  split
  · rename_i y x
    show x.bk ≤ y.bk + 1 + (x.bk + 1 + 0)
    omega
  · exact Nat.le_refl _
/-- how many names are met -/
theorem shB_len : ∀ (n : Nat) (d : D) (K : Knd), (shB n d K).2.length ≤ K.length + d.bk
  | 0, d, K => by unfold shB; exact Nat.le_add_right _ _
  | n + 1, d, K => by
    have fold : ∀ (sons : List D) (b : Bool) (K : Knd), (sons.foldl (fun acc s => ((shB n (sonS s) acc.2).1 && acc.1, (shB n (sonS s) acc.2).2)) (b, K)).2.length ≤ K.length + bkL sons := fun sons => by
      induction sons with
      | nil => intro b K; exact Nat.le_refl _
      | cons s r ih =>
        intro b K
        rw [List.foldl_cons]
        have h1 := shB_len n (sonS s) K
        have h2 := son_bk (s := s)
        have h3 := ih ((shB n (sonS s) K).1 && b) (shB n (sonS s) K).2
        refine Nat.le_trans h3 ?_
        show _ ≤ K.length + (s.bk + 1 + bkL r)
        omega
    unfold shB
    split
    · exact Nat.le_add_right _ _
    · split
      · rename_i w sons _
        split
        · split
          · rename_i ws _
            split
            · have h1 := fold sons true (putW K w ws)
              have h2 := putW_len (K := K) (w := w) (ws := ws)
              show _ ≤ K.length + (w.length + 1 + ((bkL sons) + 1 + 0))
              omega
            · exact Nat.le_add_right _ _
          · exact Nat.le_add_right _ _
        · exact Nat.le_add_right _ _
      · exact Nat.le_add_right _ _
end K60
namespace K60
open PySem PySem.Spec PyProof.Rows L2 Sh
theorem walk_fold {n : Nat} : ∀ (sons : List D) (b : Bool) (K : Knd), ∃ bs : List Bool, (walkK (fun x (K : Knd) => (D.bl (shB n (sonS x) K).1, (shB n (sonS x) K).2)) sons K).1 = bs.map D.bl ∧ (sons.foldl (fun acc s => ((shB n (sonS s) acc.2).1 && acc.1, (shB n (sonS s) acc.2).2)) (b, K)) = (bs.all id && b, (walkK (fun x (K : Knd) => (D.bl (shB n (sonS x) K).1, (shB n (sonS x) K).2)) sons K).2)
  | [], b, K => ⟨[], rfl, by simp [walkK]⟩
  | x :: r, b, K => by
    obtain ⟨bs, h1, h2⟩ := walk_fold (n := n) r ((shB n (sonS x) K).1 && b) (shB n (sonS x) K).2
    refine ⟨(shB n (sonS x) K).1 :: bs, ?_, ?_⟩
    · show D.bl (shB n (sonS x) K).1 :: _ = _
      rw [h1]
      rfl
    · rw [List.foldl_cons]
      refine h2.trans ?_
      show (bs.all id && ((shB n (sonS x) K).1 && b), _) = (((shB n (sonS x) K).1 && bs.all id) && b, _)
      congr 1
      cases bs.all id <;> cases (shB n (sonS x) K).1 <;> cases b <;> rfl
theorem shaped_g : ∀ (n : Nat) (d : D) (K : Knd) (l : Nat) (st : Sto) (P : D → Sto → Prop), d.g = true → d.dp < n → st[l]? = some (.dic (kD .tup K)) → K.length + d.bk < 10000000 → P (.bl (shB n d K).1) (st.set l (.dic (kD .tup (shB n d K).2))) → (f_is_shaped n [d, .ref l]).gives st P
  | 0, d, K, l, st, P, _, h, _, _, _ => by omega
  | n + 1, d, K, l, st, P, hg, hd, hst, hK, h => by
    unfold f_is_shaped b_is_shaped
    simp only [List.map_cons, List.map_nil, forS, setV, List.set_cons_succ, List.set_cons_zero, gv_bind, gv_seq, setS, Sh.retS, getV, List.getElem?_cons_succ, List.getElem?_cons_zero, gv_pure, mulD, addD, modD, Sh.intD, Sh.subD, Sh.divD, Sh.powD, arI, gv_guard, skipS, runB, Sh.envOf, par2S, par3S, gv_ifS, gv_eIf, gv_orB, gv_andB, asB, List.length_cons, List.length_nil, List.replicate, List.map, List.append_nil, List.cons_append, List.nil_append, setRefIt, ix_w, ix_c, ix_r, ix_t, pr_r, pr_t, eq_ii, ne_ii, appendS, lstOf, isNoneD, isND, id_eq, cmpI, gtI, leI, setOwnIt, true_and, wipeE, rng1, catD, negD, repD, ne_w, need_w, popRefM, pop_w, itemsD, Nat.reduceAdd, Nat.reduceSub, Int.reduceLT, lenV_lst, lenV_tup, lenV_str]
    refine leaf_g2 hg ?_
    unfold shB at h
    have same : st.set l (.dic (kD .tup K)) = st := by
      apply List.ext_getElem?
      intro j
      by_cases q : l = j
      · subst q
        rw [List.getElem?_set_self (List.getElem?_eq_some_iff.mp hst).1, hst]
      · rw [List.getElem?_set_ne q]
    cases hl : leafB d with
    | true =>
      simp only [hl, if_true] at h
      rw [same] at h
      simp only [List.map_cons, List.map_nil, forS, setV, List.set_cons_succ, List.set_cons_zero, gv_bind, gv_seq, setS, Sh.retS, getV, List.getElem?_cons_succ, List.getElem?_cons_zero, gv_pure, mulD, addD, modD, Sh.intD, Sh.subD, Sh.divD, Sh.powD, arI, gv_guard, skipS, runB, Sh.envOf, par2S, par3S, gv_ifS, gv_eIf, gv_orB, gv_andB, asB, List.length_cons, List.length_nil, List.replicate, List.map, List.append_nil, List.cons_append, List.nil_append, setRefIt, ix_w, ix_c, ix_r, ix_t, pr_r, pr_t, eq_ii, ne_ii, appendS, lstOf, isNoneD, isND, id_eq, cmpI, gtI, leI, setOwnIt, true_and, wipeE, rng1, catD, negD, repD, ne_w, need_w, popRefM, pop_w, itemsD, Nat.reduceAdd, Nat.reduceSub, Int.reduceLT, lenV_lst, lenV_tup, lenV_str]
      exact ⟨fun _ => h, fun e => (by cases e)⟩
    | false =>
      simp only [hl, Bool.false_eq_true, if_false] at h
      simp only [List.map_cons, List.map_nil, forS, setV, List.set_cons_succ, List.set_cons_zero, gv_bind, gv_seq, setS, Sh.retS, getV, List.getElem?_cons_succ, List.getElem?_cons_zero, gv_pure, mulD, addD, modD, Sh.intD, Sh.subD, Sh.divD, Sh.powD, arI, gv_guard, skipS, runB, Sh.envOf, par2S, par3S, gv_ifS, gv_eIf, gv_orB, gv_andB, asB, List.length_cons, List.length_nil, List.replicate, List.map, List.append_nil, List.cons_append, List.nil_append, setRefIt, ix_w, ix_c, ix_r, ix_t, pr_r, pr_t, eq_ii, ne_ii, appendS, lstOf, isNoneD, isND, id_eq, cmpI, gtI, leI, setOwnIt, true_and, wipeE, rng1, catD, negD, repD, ne_w, need_w, popRefM, pop_w, itemsD, Nat.reduceAdd, Nat.reduceSub, Int.reduceLT, lenV_lst, lenV_tup, lenV_str]
      refine ⟨fun e => (by cases e), fun _ => ?_⟩
      have bad : P (.bl false) (st.set l (.dic (kD .tup K))) → P (.bl false) st := fun q => by rw [same] at q; exact q
      obtain ⟨a, ha, ht⟩ := g_ty hg
      by_cases hs : ∃ ds, d = .tup ds
      · obtain ⟨ds, rfl⟩ := hs
        rw [isi_run (x := .tup ds) (a := "tuple") rfl, tu_yes]
        simp only [List.map_cons, List.map_nil, forS, setV, List.set_cons_succ, List.set_cons_zero, gv_bind, gv_seq, setS, Sh.retS, getV, List.getElem?_cons_succ, List.getElem?_cons_zero, gv_pure, mulD, addD, modD, Sh.intD, Sh.subD, Sh.divD, Sh.powD, arI, gv_guard, skipS, runB, Sh.envOf, par2S, par3S, gv_ifS, gv_eIf, gv_orB, gv_andB, asB, List.length_cons, List.length_nil, List.replicate, List.map, List.append_nil, List.cons_append, List.nil_append, setRefIt, ix_w, ix_c, ix_r, ix_t, pr_r, pr_t, eq_ii, ne_ii, appendS, lstOf, isNoneD, isND, id_eq, cmpI, gtI, leI, setOwnIt, true_and, wipeE, rng1, catD, negD, repD, ne_w, need_w, popRefM, pop_w, itemsD, Nat.reduceAdd, Nat.reduceSub, Int.reduceLT, lenV_lst, lenV_tup, lenV_str]
        refine ⟨fun e => (by cases e), fun _ => ?_⟩
        match ds, hg, hd, h with
        | [], _, _, h => exact ⟨fun _ => ⟨fun _ => bad h, fun e => (by cases e)⟩, fun e => (by cases e)⟩
        | [y], _, _, h => exact ⟨fun _ => ⟨fun _ => bad (by cases y <;> exact h), fun e => (by cases e)⟩, fun e => (by cases e)⟩
        | y :: z :: z2 :: r, _, _, h =>
          have e1 : ((((y :: z :: z2 :: r).length : Nat) : Int) == 2) = false := by
            have q : ¬ (((y :: z :: z2 :: r).length : Nat) : Int) = 2 := by simp only [List.length_cons]; omega
            simpa using q
          refine ⟨fun _ => ⟨fun _ => bad (by cases y <;> cases z <;> exact h), fun e => (by cases e)⟩, fun e => ?_⟩
          exfalso
          have e : (!((((y :: z :: z2 :: r).length : Nat) : Int) == 2)) = false := e
          rw [e1] at e
          cases e
        | [y, x], hg, hd, h =>
          refine ⟨fun e => (by cases e), fun _ => ?_⟩
          rw [ix0]
          have hgg : (y.g && (x.g && true)) = true := hg
          simp only [Bool.and_eq_true, and_true] at hgg
          refine name_g hgg.1 ?_
          simp only [List.map_cons, List.map_nil, forS, setV, List.set_cons_succ, List.set_cons_zero, gv_bind, gv_seq, setS, Sh.retS, getV, List.getElem?_cons_succ, List.getElem?_cons_zero, gv_pure, mulD, addD, modD, Sh.intD, Sh.subD, Sh.divD, Sh.powD, arI, gv_guard, skipS, runB, Sh.envOf, par2S, par3S, gv_ifS, gv_eIf, gv_orB, gv_andB, asB, List.length_cons, List.length_nil, List.replicate, List.map, List.append_nil, List.cons_append, List.nil_append, setRefIt, ix_w, ix_c, ix_r, ix_t, pr_r, pr_t, eq_ii, ne_ii, appendS, lstOf, isNoneD, isND, id_eq, cmpI, gtI, leI, setOwnIt, true_and, wipeE, rng1, catD, negD, repD, ne_w, need_w, popRefM, pop_w, itemsD, Nat.reduceAdd, Nat.reduceSub, Int.reduceLT, lenV_lst, lenV_tup, lenV_str]
          cases hn : nameB y with
          | false =>
            refine ⟨fun _ => ⟨fun _ => bad ?_, fun e => (by cases e)⟩, fun e => (by cases e)⟩
            cases y with
            | str w =>
              have hn : nameS w = false := hn
              cases x <;> first | exact h | (simp only [hn, Bool.false_eq_true, if_false] at h; exact h)
            | _ => exact h
          | true =>
            refine ⟨fun e => (by cases e), fun _ => ?_⟩
            rw [ix1]
            obtain ⟨b, hb, htb⟩ := g_ty hgg.2
            have ey : ∃ w, y = .str w := by cases y <;> first | exact ⟨_, rfl⟩ | cases hn
            obtain ⟨w, rfl⟩ := ey
            have hn : nameS w = true := hn
            by_cases hx : ∃ sons, x = .tup sons
            · obtain ⟨sons, rfl⟩ := hx
              rw [isi_run (x := .tup sons) (a := "tuple") rfl, tu_yes]
              simp only [List.map_cons, List.map_nil, forS, setV, List.set_cons_succ, List.set_cons_zero, gv_bind, gv_seq, setS, Sh.retS, getV, List.getElem?_cons_succ, List.getElem?_cons_zero, gv_pure, mulD, addD, modD, Sh.intD, Sh.subD, Sh.divD, Sh.powD, arI, gv_guard, skipS, runB, Sh.envOf, par2S, par3S, gv_ifS, gv_eIf, gv_orB, gv_andB, asB, List.length_cons, List.length_nil, List.replicate, List.map, List.append_nil, List.cons_append, List.nil_append, setRefIt, ix_w, ix_c, ix_r, ix_t, pr_r, pr_t, eq_ii, ne_ii, appendS, lstOf, isNoneD, isND, id_eq, cmpI, gtI, leI, setOwnIt, true_and, wipeE, rng1, catD, negD, repD, ne_w, need_w, popRefM, pop_w, itemsD, Nat.reduceAdd, Nat.reduceSub, Int.reduceLT, lenV_lst, lenV_tup, lenV_str, unpS, gTupD, gConsD, gNilD, Option.bind_some]
              refine ⟨fun e => (by cases e), fun _ => ?_⟩
              have hsg : gL sons = true := hgg.2
              have sg : ∀ x ∈ sons, x.g = true := fun x hx => by
                obtain ⟨i, hi, e⟩ := List.mem_iff_getElem.mp hx
                exact (item_of (by rw [List.getElem?_eq_getElem hi, e]) hsg).1
              refine comp_pure (F := fun x => .bl (sonW x).isSome) (fun x hx P hp => ?_) ?_
              · simp only [List.map_cons, List.map_nil, forS, setV, List.set_cons_succ, List.set_cons_zero, gv_bind, gv_seq, setS, Sh.retS, getV, List.getElem?_cons_succ, List.getElem?_cons_zero, gv_pure, mulD, addD, modD, Sh.intD, Sh.subD, Sh.divD, Sh.powD, arI, gv_guard, skipS, runB, Sh.envOf, par2S, par3S, gv_ifS, gv_eIf, gv_orB, gv_andB, asB, List.length_cons, List.length_nil, List.replicate, List.map, List.append_nil, List.cons_append, List.nil_append, setRefIt, ix_w, ix_c, ix_r, ix_t, pr_r, pr_t, eq_ii, ne_ii, appendS, lstOf, isNoneD, isND, id_eq, cmpI, gtI, leI, setOwnIt, true_and, wipeE, rng1, catD, negD, repD, ne_w, need_w, popRefM, pop_w, itemsD, Nat.reduceAdd, Nat.reduceSub, Int.reduceLT, lenV_lst, lenV_tup, lenV_str]
                exact son_g (sg x hx) hp
              have e0 : (sons.map fun x => D.bl (sonW x).isSome) = (sons.map fun x => (sonW x).isSome).map D.bl := by rw [List.map_map]; rfl
              rw [e0, all_bls]
              simp only [List.map_cons, List.map_nil, forS, setV, List.set_cons_succ, List.set_cons_zero, gv_bind, gv_seq, setS, Sh.retS, getV, List.getElem?_cons_succ, List.getElem?_cons_zero, gv_pure, mulD, addD, modD, Sh.intD, Sh.subD, Sh.divD, Sh.powD, arI, gv_guard, skipS, runB, Sh.envOf, par2S, par3S, gv_ifS, gv_eIf, gv_orB, gv_andB, asB, List.length_cons, List.length_nil, List.replicate, List.map, List.append_nil, List.cons_append, List.nil_append, setRefIt, ix_w, ix_c, ix_r, ix_t, pr_r, pr_t, eq_ii, ne_ii, appendS, lstOf, isNoneD, isND, id_eq, cmpI, gtI, leI, setOwnIt, true_and, wipeE, rng1, catD, negD, repD, ne_w, need_w, popRefM, pop_w, itemsD, Nat.reduceAdd, Nat.reduceSub, Int.reduceLT, lenV_lst, lenV_tup, lenV_str]
              cases hall : (sons.map fun x => (sonW x).isSome).all id with
              | false =>
                refine ⟨fun _ => bad ?_, fun e => (by cases e)⟩
                simp only [hn, if_true, sonsW_none hall] at h
                exact h
              | true =>
                refine ⟨fun e => (by cases e), fun _ => ?_⟩
                obtain ⟨ws, e1, e2, e3⟩ := sonsW_some hall
                simp only [hn, if_true, e1] at h
                refine comp_pure (F := sonF) (fun x hx P hp => ?_) ?_
                · have hs : (sonW x).isSome = true := by
                    have := List.all_eq_true.mp hall _ (List.mem_map.mpr ⟨x, hx, rfl⟩)
                    exact this
                  obtain ⟨w', ew⟩ := Option.isSome_iff_exists.mp hs
                  obtain ⟨y, rfl⟩ := son_is ew
                  simp only [List.map_cons, List.map_nil, forS, setV, List.set_cons_succ, List.set_cons_zero, gv_bind, gv_seq, setS, Sh.retS, getV, List.getElem?_cons_succ, List.getElem?_cons_zero, gv_pure, mulD, addD, modD, Sh.intD, Sh.subD, Sh.divD, Sh.powD, arI, gv_guard, skipS, runB, Sh.envOf, par2S, par3S, gv_ifS, gv_eIf, gv_orB, gv_andB, asB, List.length_cons, List.length_nil, List.replicate, List.map, List.append_nil, List.cons_append, List.nil_append, setRefIt, ix_w, ix_c, ix_r, ix_t, pr_r, pr_t, eq_ii, ne_ii, appendS, lstOf, isNoneD, isND, id_eq, cmpI, gtI, leI, setOwnIt, true_and, wipeE, rng1, catD, negD, repD, ne_w, need_w, popRefM, pop_w, itemsD, Nat.reduceAdd, Nat.reduceSub, Int.reduceLT, lenV_lst, lenV_tup, lenV_str]
                  rw [ix0]
                  exact hp
                rw [e2]
                show (pure (D.tup (ws.map .str)) : M D).gives st _
                simp only [List.map_cons, List.map_nil, forS, setV, List.set_cons_succ, List.set_cons_zero, gv_bind, gv_seq, setS, Sh.retS, getV, List.getElem?_cons_succ, List.getElem?_cons_zero, gv_pure, mulD, addD, modD, Sh.intD, Sh.subD, Sh.divD, Sh.powD, arI, gv_guard, skipS, runB, Sh.envOf, par2S, par3S, gv_ifS, gv_eIf, gv_orB, gv_andB, asB, List.length_cons, List.length_nil, List.replicate, List.map, List.append_nil, List.cons_append, List.nil_append, setRefIt, ix_w, ix_c, ix_r, ix_t, pr_r, pr_t, eq_ii, ne_ii, appendS, lstOf, isNoneD, isND, id_eq, cmpI, gtI, leI, setOwnIt, true_and, wipeE, rng1, catD, negD, repD, ne_w, need_w, popRefM, pop_w, itemsD, Nat.reduceAdd, Nat.reduceSub, Int.reduceLT, lenV_lst, lenV_tup, lenV_str]
                rw [show (D.tup [c_SURE, c_UNSURE]) = D.tup [.tup (wSure.map .str), .tup (wUnsure.map .str)] from rfl, notIn_tup]
                simp only [List.map_cons, List.map_nil, forS, setV, List.set_cons_succ, List.set_cons_zero, gv_bind, gv_seq, setS, Sh.retS, getV, List.getElem?_cons_succ, List.getElem?_cons_zero, gv_pure, mulD, addD, modD, Sh.intD, Sh.subD, Sh.divD, Sh.powD, arI, gv_guard, skipS, runB, Sh.envOf, par2S, par3S, gv_ifS, gv_eIf, gv_orB, gv_andB, asB, List.length_cons, List.length_nil, List.replicate, List.map, List.append_nil, List.cons_append, List.nil_append, setRefIt, ix_w, ix_c, ix_r, ix_t, pr_r, pr_t, eq_ii, ne_ii, appendS, lstOf, isNoneD, isND, id_eq, cmpI, gtI, leI, setOwnIt, true_and, wipeE, rng1, catD, negD, repD, ne_w, need_w, popRefM, pop_w, itemsD, Nat.reduceAdd, Nat.reduceSub, Int.reduceLT, lenV_lst, lenV_tup, lenV_str]
                cases hc : (decide (ws = wSure) || decide (ws = wUnsure)) with
                | false =>
                  refine ⟨fun _ => ⟨fun _ => bad ?_, fun e => (by cases e)⟩, fun e => (by cases e)⟩
                  rw [hc] at h
                  exact h
                | true =>
                  refine ⟨fun e => (by cases e), fun _ => ?_⟩
                  rw [hc] at h
                  simp only [dget2M, List.map_cons, List.map_nil, forS, setV, List.set_cons_succ, List.set_cons_zero, gv_bind, gv_seq, setS, Sh.retS, getV, List.getElem?_cons_succ, List.getElem?_cons_zero, gv_pure, mulD, addD, modD, Sh.intD, Sh.subD, Sh.divD, Sh.powD, arI, gv_guard, skipS, runB, Sh.envOf, par2S, par3S, gv_ifS, gv_eIf, gv_orB, gv_andB, asB, List.length_cons, List.length_nil, List.replicate, List.map, List.append_nil, List.cons_append, List.nil_append, setRefIt, ix_w, ix_c, ix_r, ix_t, pr_r, pr_t, eq_ii, ne_ii, appendS, lstOf, isNoneD, isND, id_eq, cmpI, gtI, leI, setOwnIt, true_and, wipeE, rng1, catD, negD, repD, ne_w, need_w, popRefM, pop_w, itemsD, Nat.reduceAdd, Nat.reduceSub, Int.reduceLT, lenV_lst, lenV_tup, lenV_str]
                  rw [need_l hst]
                  rw [dg_l hst, kD_get]
                  have eg : ((getW K w).map fun ws => D.tup (ws.map .str)).getD (D.tup (ws.map .str)) = D.tup (((getW K w).getD ws).map .str) := by cases getW K w <;> rfl
                  rw [eg, ne_tup]
                  simp only [List.map_cons, List.map_nil, forS, setV, List.set_cons_succ, List.set_cons_zero, gv_bind, gv_seq, setS, Sh.retS, getV, List.getElem?_cons_succ, List.getElem?_cons_zero, gv_pure, mulD, addD, modD, Sh.intD, Sh.subD, Sh.divD, Sh.powD, arI, gv_guard, skipS, runB, Sh.envOf, par2S, par3S, gv_ifS, gv_eIf, gv_orB, gv_andB, asB, List.length_cons, List.length_nil, List.replicate, List.map, List.append_nil, List.cons_append, List.nil_append, setRefIt, ix_w, ix_c, ix_r, ix_t, pr_r, pr_t, eq_ii, ne_ii, appendS, lstOf, isNoneD, isND, id_eq, cmpI, gtI, leI, setOwnIt, true_and, wipeE, rng1, catD, negD, repD, ne_w, need_w, popRefM, pop_w, itemsD, Nat.reduceAdd, Nat.reduceSub, Int.reduceLT, lenV_lst, lenV_tup, lenV_str]
                  by_cases hq : (getW K w).getD ws = ws
                  · have hq' : decide ((getW K w).getD ws = ws) = true := decide_eq_true hq
                    simp only [hq', Bool.and_self, if_true] at h
                    simp only [hq']
                    refine ⟨fun e => (by cases e), fun _ => ?_⟩
                    have hKl : (kD .tup K).length < 16777216 := by unfold kD; rw [List.length_map]; omega
                    rw [put_l hst hKl, kD_put]
                    have hbk : (D.tup [.str w, .tup sons]).bk = w.length + 1 + (bkL sons + 1 + 0) := rfl
                    have hpl := putW_len (K := K) (w := w) (ws := ws)
                    have hll : l < st.length := (List.getElem?_eq_some_iff.mp hst).1
                    refine comp_walkI (κ := Knd) (F := fun x K => (.bl (shB n (sonS x) K).1, (shB n (sonS x) K).2)) (St := fun K' => st.set l (.dic (kD .tup K'))) (I := fun xs K' => K'.length + bkL xs < 10000000) (fun x r K' hi => ?_) sons (putW K w ws) _ (by rw [hbk] at hK; omega) (fun x r K' P hx hi hp => ?_) ?_
                    · have h1 := shB_len n (sonS x) K'
                      have h2 := son_bk (s := x)
                      have hi : K'.length + (x.bk + 1 + bkL r) < 10000000 := hi
                      show (shB n (sonS x) K').2.length + bkL r < 10000000
                      omega
                    · have hs : (sonW x).isSome = true := by
                        have := List.all_eq_true.mp hall _ (List.mem_map.mpr ⟨x, hx, rfl⟩)
                        exact this
                      obtain ⟨w', ew⟩ := Option.isSome_iff_exists.mp hs
                      obtain ⟨y, rfl⟩ := son_is ew
                      simp only [List.map_cons, List.map_nil, forS, setV, List.set_cons_succ, List.set_cons_zero, gv_bind, gv_seq, setS, Sh.retS, getV, List.getElem?_cons_succ, List.getElem?_cons_zero, gv_pure, mulD, addD, modD, Sh.intD, Sh.subD, Sh.divD, Sh.powD, arI, gv_guard, skipS, runB, Sh.envOf, par2S, par3S, gv_ifS, gv_eIf, gv_orB, gv_andB, asB, List.length_cons, List.length_nil, List.replicate, List.map, List.append_nil, List.cons_append, List.nil_append, setRefIt, ix_w, ix_c, ix_r, ix_t, pr_r, pr_t, eq_ii, ne_ii, appendS, lstOf, isNoneD, isND, id_eq, cmpI, gtI, leI, setOwnIt, true_and, wipeE, rng1, catD, negD, repD, ne_w, need_w, popRefM, pop_w, itemsD, Nat.reduceAdd, Nat.reduceSub, Int.reduceLT, lenV_lst, lenV_tup, lenV_str]
                      rw [ix1]
                      have hgx := sg _ hx
                      have hgy : y.g = true := by
                        have q : (okS w' && (y.g && true)) = true := hgx
                        simp only [Bool.and_eq_true, and_true] at q
                        exact q.2
                      have hdx : (D.tup [.str w', y]).dp ≤ dpL sons := by
                        obtain ⟨i, hi, e⟩ := List.mem_iff_getElem.mp hx
                        exact (item_of (by rw [List.getElem?_eq_getElem hi, e]) hsg).2.2
                      have hdx' : max 0 (max y.dp 0) + 1 ≤ dpL sons := hdx
                      have hd' : max 0 (max (dpL sons + 1) 0) + 1 < n + 1 := hd
                      have hi' : K'.length + ((w'.length + 1 + (y.bk + 1 + 0)) + 1 + bkL r) < 10000000 := hi
                      refine shaped_g n y K' l (st.set l (.dic (kD .tup K'))) _ hgy (by omega) (by rw [List.getElem?_set_self hll]) (by omega) ?_
                      rw [List.set_set]
                      exact hp
                    · obtain ⟨bs, w1, w2⟩ := walk_fold (n := n) sons true (putW K w ws)
                      rw [w1, all_bls]
                      rw [w2, Bool.and_true] at h
                      exact h
                  · have hq' : decide ((getW K w).getD ws = ws) = false := decide_eq_false hq
                    simp only [hq', Bool.and_false, Bool.false_eq_true, if_false] at h
                    simp only [hq']
                    exact ⟨fun _ => bad h, fun e => (by cases e)⟩
            · have hnb : b ∈ ["NoneType", "bool", "int", "str", "list", "dict"] := by
                have hg2 := hgg.2
                cases x <;> first | (cases hg2; done) | (cases htb; simp; done) | exact absurd ⟨_, rfl⟩ hx
              rw [isi_run htb, tu_no b hnb]
              simp only [List.map_cons, List.map_nil, forS, setV, List.set_cons_succ, List.set_cons_zero, gv_bind, gv_seq, setS, Sh.retS, getV, List.getElem?_cons_succ, List.getElem?_cons_zero, gv_pure, mulD, addD, modD, Sh.intD, Sh.subD, Sh.divD, Sh.powD, arI, gv_guard, skipS, runB, Sh.envOf, par2S, par3S, gv_ifS, gv_eIf, gv_orB, gv_andB, asB, List.length_cons, List.length_nil, List.replicate, List.map, List.append_nil, List.cons_append, List.nil_append, setRefIt, ix_w, ix_c, ix_r, ix_t, pr_r, pr_t, eq_ii, ne_ii, appendS, lstOf, isNoneD, isND, id_eq, cmpI, gtI, leI, setOwnIt, true_and, wipeE, rng1, catD, negD, repD, ne_w, need_w, popRefM, pop_w, itemsD, Nat.reduceAdd, Nat.reduceSub, Int.reduceLT, lenV_lst, lenV_tup, lenV_str]
              refine ⟨fun _ => bad ?_, fun e => (by cases e)⟩
              cases x <;> first | exact h | exact absurd ⟨_, rfl⟩ hx
      · have hn : a ∈ ["NoneType", "bool", "int", "str", "list", "dict"] := by
          cases d <;> first | (cases hg; done) | (cases ht; simp; done) | exact absurd ⟨_, rfl⟩ hs
        rw [isi_run ht, tu_no a hn]
        simp only [List.map_cons, List.map_nil, forS, setV, List.set_cons_succ, List.set_cons_zero, gv_bind, gv_seq, setS, Sh.retS, getV, List.getElem?_cons_succ, List.getElem?_cons_zero, gv_pure, mulD, addD, modD, Sh.intD, Sh.subD, Sh.divD, Sh.powD, arI, gv_guard, skipS, runB, Sh.envOf, par2S, par3S, gv_ifS, gv_eIf, gv_orB, gv_andB, asB, List.length_cons, List.length_nil, List.replicate, List.map, List.append_nil, List.cons_append, List.nil_append, setRefIt, ix_w, ix_c, ix_r, ix_t, pr_r, pr_t, eq_ii, ne_ii, appendS, lstOf, isNoneD, isND, id_eq, cmpI, gtI, leI, setOwnIt, true_and, wipeE, rng1, catD, negD, repD, ne_w, need_w, popRefM, pop_w, itemsD, Nat.reduceAdd, Nat.reduceSub, Int.reduceLT, lenV_lst, lenV_tup, lenV_str]
        refine ⟨fun _ => ⟨fun _ => bad ?_, fun e => (by cases e)⟩, fun e => (by cases e)⟩
        cases d <;> first | exact h | exact absurd ⟨_, rfl⟩ hs
end K60
namespace K60
open PySem PySem.Spec PyProof.Rows L2 Sh
abbrev wordB : MS := seqS (ifS (orB (tNot (tB (Sh.e1 (isiD "tuple") (eV 3)))) (orB (tB (Sh.e2 neD (Sh.e1 lenD (eV 3)) (eC (.int 2)))) (tNot (tB (Sh.e1 (isiD "str") (Sh.e2 ixD (eV 3) (eC (.int 0)))))))) (seqS (Sh.retS (eC (.bl false))) skipS) skipS) (seqS (appendS 2 (Sh.e2 ixD (eV 3) (eC (.int 0)))) skipS)
/-- one son: its word, or the loop is left -/
theorem word_one {x : D} (hx : x.g = true) {a0 a1 : Option D} {ws : List Str} (hl : ws.length < 16777216) {st : Sto} {P : Fl × Sh.Env → Sto → Prop}
    (h1 : ∀ w, sonW x = some w → P (.nx, [a0, a1, some (.lst ((ws ++ [w]).map .str)), some x]) st) (h2 : sonW x = none → P (.rt (.bl false), [a0, a1, some (.lst (ws.map .str)), some x]) st) :
    (wordB [a0, a1, some (.lst (ws.map .str)), some x]).gives st P := by
  obtain ⟨a, ha, ht⟩ := g_ty hx
  by_cases hs : ∃ ds, x = .tup ds
  · obtain ⟨ds, rfl⟩ := hs
    simp only [List.map_cons, List.map_nil, forS, setV, List.set_cons_succ, List.set_cons_zero, gv_bind, gv_seq, setS, Sh.retS, getV, List.getElem?_cons_succ, List.getElem?_cons_zero, gv_pure, mulD, addD, modD, Sh.intD, Sh.subD, Sh.divD, Sh.powD, arI, gv_guard, skipS, runB, Sh.envOf, par2S, par3S, gv_ifS, gv_eIf, gv_orB, gv_andB, asB, List.length_cons, List.length_nil, List.replicate, List.map, List.append_nil, List.cons_append, List.nil_append, setRefIt, ix_w, ix_c, ix_r, ix_t, pr_r, pr_t, eq_ii, ne_ii, appendS, lstOf, isNoneD, isND, id_eq, cmpI, gtI, leI, setOwnIt, true_and, wipeE, rng1, catD, negD, repD, ne_w, need_w, popRefM, pop_w, itemsD, Nat.reduceAdd, Nat.reduceSub, Int.reduceLT, lenV_lst, lenV_tup, lenV_str, isi_run (x := .tup ds) (a := "tuple") rfl, tu_yes]
    refine ⟨fun e => (by cases e), fun _ => ?_⟩
    match ds, hx, h1, h2 with
    | [], _, _, h2 => exact ⟨fun _ => ⟨fun _ => h2 rfl, fun e => (by cases e)⟩, fun e => (by cases e)⟩
    | [y], _, _, h2 => exact ⟨fun _ => ⟨fun _ => h2 (by cases y <;> rfl), fun e => (by cases e)⟩, fun e => (by cases e)⟩
    | y :: z :: z2 :: r, _, _, h2 =>
      have e1 : ((((y :: z :: z2 :: r).length : Nat) : Int) == 2) = false := by
        have q : ¬ (((y :: z :: z2 :: r).length : Nat) : Int) = 2 := by simp only [List.length_cons]; omega
        simpa using q
      refine ⟨fun _ => ⟨fun _ => h2 (by cases y <;> rfl), fun e => (by cases e)⟩, fun e => ?_⟩
      exfalso
      have e : (!((((y :: z :: z2 :: r).length : Nat) : Int) == 2)) = false := e
      rw [e1] at e
      cases e
    | [y, z], hx, h1, h2 =>
      refine ⟨fun e => (by cases e), fun _ => ?_⟩
      rw [ix0]
      have hg : (y.g && gL [z]) = true := hx
      simp only [Bool.and_eq_true] at hg
      obtain ⟨b, hb, htb⟩ := g_ty hg.1
      by_cases hy : ∃ w, y = .str w
      · obtain ⟨w, rfl⟩ := hy
        rw [isi_run (x := .str w) (a := "str") rfl, s_yes]
        simp only [List.map_cons, List.map_nil, forS, setV, List.set_cons_succ, List.set_cons_zero, gv_bind, gv_seq, setS, Sh.retS, getV, List.getElem?_cons_succ, List.getElem?_cons_zero, gv_pure, mulD, addD, modD, Sh.intD, Sh.subD, Sh.divD, Sh.powD, arI, gv_guard, skipS, runB, Sh.envOf, par2S, par3S, gv_ifS, gv_eIf, gv_orB, gv_andB, asB, List.length_cons, List.length_nil, List.replicate, List.map, List.append_nil, List.cons_append, List.nil_append, setRefIt, ix_w, ix_c, ix_r, ix_t, pr_r, pr_t, eq_ii, ne_ii, appendS, lstOf, isNoneD, isND, id_eq, cmpI, gtI, leI, setOwnIt, true_and, wipeE, rng1, catD, negD, repD, ne_w, need_w, popRefM, pop_w, itemsD, Nat.reduceAdd, Nat.reduceSub, Int.reduceLT, lenV_lst, lenV_tup, lenV_str]
        refine ⟨fun e => (by cases e), fun _ => ?_⟩
        rw [ix0]
        have q := h1 w rfl
        have e : (ws.map D.str ++ [D.str w]) = (ws ++ [w]).map D.str := by simp
        simp only [List.map_cons, List.map_nil, forS, setV, List.set_cons_succ, List.set_cons_zero, gv_bind, gv_seq, setS, Sh.retS, getV, List.getElem?_cons_succ, List.getElem?_cons_zero, gv_pure, mulD, addD, modD, Sh.intD, Sh.subD, Sh.divD, Sh.powD, arI, gv_guard, skipS, runB, Sh.envOf, par2S, par3S, gv_ifS, gv_eIf, gv_orB, gv_andB, asB, List.length_cons, List.length_nil, List.replicate, List.map, List.append_nil, List.cons_append, List.nil_append, setRefIt, ix_w, ix_c, ix_r, ix_t, pr_r, pr_t, eq_ii, ne_ii, appendS, lstOf, isNoneD, isND, id_eq, cmpI, gtI, leI, setOwnIt, true_and, wipeE, rng1, catD, negD, repD, ne_w, need_w, popRefM, pop_w, itemsD, Nat.reduceAdd, Nat.reduceSub, Int.reduceLT, lenV_lst, lenV_tup, lenV_str, e]
        exact ⟨by rw [List.length_map]; exact hl, q⟩
      · have hnb : b ∈ ["NoneType", "bool", "int", "list", "tuple", "dict"] := by
          have hg1 := hg.1
          cases y <;> first | (cases hg1; done) | (cases htb; simp; done) | exact absurd ⟨_, rfl⟩ hy
        rw [isi_run htb, s_no b hnb]
        simp only [List.map_cons, List.map_nil, forS, setV, List.set_cons_succ, List.set_cons_zero, gv_bind, gv_seq, setS, Sh.retS, getV, List.getElem?_cons_succ, List.getElem?_cons_zero, gv_pure, mulD, addD, modD, Sh.intD, Sh.subD, Sh.divD, Sh.powD, arI, gv_guard, skipS, runB, Sh.envOf, par2S, par3S, gv_ifS, gv_eIf, gv_orB, gv_andB, asB, List.length_cons, List.length_nil, List.replicate, List.map, List.append_nil, List.cons_append, List.nil_append, setRefIt, ix_w, ix_c, ix_r, ix_t, pr_r, pr_t, eq_ii, ne_ii, appendS, lstOf, isNoneD, isND, id_eq, cmpI, gtI, leI, setOwnIt, true_and, wipeE, rng1, catD, negD, repD, ne_w, need_w, popRefM, pop_w, itemsD, Nat.reduceAdd, Nat.reduceSub, Int.reduceLT, lenV_lst, lenV_tup, lenV_str]
        exact ⟨fun _ => h2 (by cases y <;> first | rfl | exact absurd ⟨_, rfl⟩ hy), fun e => (by cases e)⟩
  · have hn : a ∈ ["NoneType", "bool", "int", "str", "list", "dict"] := by
      cases x <;> first | (cases hx; done) | (cases ht; simp; done) | exact absurd ⟨_, rfl⟩ hs
    simp only [List.map_cons, List.map_nil, forS, setV, List.set_cons_succ, List.set_cons_zero, gv_bind, gv_seq, setS, Sh.retS, getV, List.getElem?_cons_succ, List.getElem?_cons_zero, gv_pure, mulD, addD, modD, Sh.intD, Sh.subD, Sh.divD, Sh.powD, arI, gv_guard, skipS, runB, Sh.envOf, par2S, par3S, gv_ifS, gv_eIf, gv_orB, gv_andB, asB, List.length_cons, List.length_nil, List.replicate, List.map, List.append_nil, List.cons_append, List.nil_append, setRefIt, ix_w, ix_c, ix_r, ix_t, pr_r, pr_t, eq_ii, ne_ii, appendS, lstOf, isNoneD, isND, id_eq, cmpI, gtI, leI, setOwnIt, true_and, wipeE, rng1, catD, negD, repD, ne_w, need_w, popRefM, pop_w, itemsD, Nat.reduceAdd, Nat.reduceSub, Int.reduceLT, lenV_lst, lenV_tup, lenV_str, isi_run ht, tu_no a hn]
    exact ⟨fun _ => ⟨fun _ => h2 (by cases x <;> first | rfl | exact absurd ⟨_, rfl⟩ hs), fun e => (by cases e)⟩, fun e => (by cases e)⟩
theorem words_loop {a0 a1 : Option D} {st : Sto} {P : Fl × Sh.Env → Sto → Prop} : ∀ (sons : List D) (ws : List Str) (x : Option D), (∀ s ∈ sons, s.g = true) → ws.length + sons.length < 16777216 →
    (∀ us x, sonsW sons = some us → P (.nx, [a0, a1, some (.lst ((ws ++ us).map .str)), x]) st) → (sonsW sons = none → ∀ ρ, P (.rt (.bl false), ρ) st) →
    (forS (setV 3) wordB sons [a0, a1, some (.lst (ws.map .str)), x]).gives st P
  | [], ws, x, _, _, h1, _ => by
    have := h1 [] x rfl
    rw [List.append_nil] at this
    exact this
  | s :: r, ws, x, hg, hl, h1, h2 => by
    have hl' : ws.length + (r.length + 1) < 16777216 := by simpa using hl
    unfold forS
    show M.gives (do let rr ← wordB [a0, a1, some (.lst (ws.map .str)), some s]; match rr.1 with | .nx => forS (setV 3) wordB r rr.2 | .ct => forS (setV 3) wordB r rr.2 | .bk => pure (.nx, rr.2) | .rt d => pure (.rt d, rr.2)) st P
    rw [M.gives_bind]
    refine word_one (hg s List.mem_cons_self) (by omega) (fun w hw => ?_) fun hn => ?_
    · refine words_loop r (ws ++ [w]) _ (fun z hz => hg z (List.mem_cons_of_mem _ hz)) (by simp; omega) (fun us x hu => ?_) fun hu => ?_
      · have := h1 (w :: us) x (by unfold sonsW; rw [hw, hu])
        rw [List.append_cons] at this
        exact this
      · exact h2 (by unfold sonsW; rw [hw, hu])
    · exact h2 (by unfold sonsW; rw [hn]) _
end K60
namespace K60
open PySem PySem.Spec PyProof.Rows L2 Sh
/-- .. with what is still to come told by I -/
theorem comp_keepI {κ : Type} {F : D → κ → Bool × κ} {St : κ → Sto} {I : List D → κ → Prop} {i : Nat} {t : Sh.Env → M Bool} {ρ : Sh.Env} (hI : ∀ x r K, I (x :: r) K → I r (F x K).2) (hi : ∀ x, getV (ρ.set i (some x)) i = (pure x : M D)) : ∀ (xs : List D) (K : κ) (P : List D → Sto → Prop), I xs K →
    (∀ x r K (P : Bool → Sto → Prop), x ∈ xs → I (x :: r) K → P (F x K).1 (St (F x K).2) → (t (ρ.set i (some x))).gives (St K) P) →
    (∀ ys : List D, ys.isEmpty = (xs.foldl (fun acc x => (acc.1 && !(F x acc.2).1, (F x acc.2).2)) (true, K)).1 → P ys (St (xs.foldl (fun acc x => (acc.1 && !(F x acc.2).1, (F x acc.2).2)) (true, K)).2)) → (compD (setV i) t (eV i) ρ xs).gives (St K) P
  | [], K, P, _, _, h => h [] rfl
  | x :: xs, K, P, hx, ht, h => by
    have acc : ∀ (xs : List D) (b : Bool) (K : κ), (xs.foldl (fun acc x => (acc.1 && !(F x acc.2).1, (F x acc.2).2)) (b, K)) = (b && (xs.foldl (fun acc x => (acc.1 && !(F x acc.2).1, (F x acc.2).2)) (true, K)).1, (xs.foldl (fun acc x => (acc.1 && !(F x acc.2).1, (F x acc.2).2)) (true, K)).2) := fun xs => by
      induction xs with
      | nil => intro b K; simp
      | cons y ys ih =>
        intro b K
        rw [List.foldl_cons, List.foldl_cons, ih (b && !(F y K).1), ih (true && !(F y K).1)]
        simp [Bool.and_assoc]
    unfold compD
    show M.gives (do let b ← t (ρ.set i (some x)); if b = true then (do let y ← eV i (ρ.set i (some x)); let r ← compD (setV i) t (eV i) ρ xs; pure (y :: r)) else compD (setV i) t (eV i) ρ xs) (St K) P
    rw [M.gives_bind]
    refine ht x xs K _ List.mem_cons_self hx ?_
    have hx' := hI x xs K hx
    have h0 : ∀ ys : List D, ys.isEmpty = (!(F x K).1 && (xs.foldl (fun acc x => (acc.1 && !(F x acc.2).1, (F x acc.2).2)) (true, (F x K).2)).1) → P ys (St (xs.foldl (fun acc x => (acc.1 && !(F x acc.2).1, (F x acc.2).2)) (true, (F x K).2)).2) := fun ys hys => by
      have := h ys
      rw [List.foldl_cons, acc xs (true && !(F x K).1)] at this
      exact this (by simpa using hys)
    cases hb : (F x K).1 with
    | true =>
      rw [if_pos rfl, M.gives_bind]
      show M.gives (getV (ρ.set i (some x)) i) _ _
      rw [hi]
      show M.gives (do let r ← compD (setV i) t (eV i) ρ xs; pure (x :: r)) (St (F x K).2) P
      rw [M.gives_bind]
      refine comp_keepI hI hi xs (F x K).2 _ hx' (fun z r K P hz => ht z r K P (List.mem_cons_of_mem _ hz)) fun ys _ => ?_
      exact h0 (x :: ys) (by rw [hb]; simp)
    | false =>
      rw [if_neg (by simp)]
      refine comp_keepI hI hi xs (F x K).2 _ hx' (fun z r K P hz => ht z r K P (List.mem_cons_of_mem _ hz)) fun ys hys => ?_
      exact h0 ys (by rw [hb]; simpa using hys)
theorem flip_fold {n : Nat} : ∀ (sons : List D) (b : Bool) (K : Knd), (sons.foldl (fun acc s => (acc.1 && !(!(shB n (sonS s) acc.2).1), (shB n (sonS s) acc.2).2)) (b, K)) = (sons.foldl (fun acc s => ((shB n (sonS s) acc.2).1 && acc.1, (shB n (sonS s) acc.2).2)) (b, K))
  | [], b, K => rfl
  | x :: r, b, K => by
    rw [List.foldl_cons, List.foldl_cons, ← flip_fold r]
    rw [Bool.not_not, Bool.and_comm]
theorem lshape_g : ∀ (n : Nat) (d : D) (K : Knd) (l : Nat) (st : Sto) (P : D → Sto → Prop), d.g = true → d.dp < n → st[l]? = some (.dic (kD .lst K)) → K.length + d.bk < 10000000 → P (.bl (shB n d K).1) (st.set l (.dic (kD .lst (shB n d K).2))) → (f__law_is_shape n [d, .ref l]).gives st P
  | 0, d, K, l, st, P, _, h, _, _, _ => by omega
  | n + 1, d, K, l, st, P, hg, hd, hst, hK, h => by
    unfold f__law_is_shape b__law_is_shape
    simp only [List.map_cons, List.map_nil, forS, setV, List.set_cons_succ, List.set_cons_zero, gv_bind, gv_seq, setS, Sh.retS, getV, List.getElem?_cons_succ, List.getElem?_cons_zero, gv_pure, mulD, addD, modD, Sh.intD, Sh.subD, Sh.divD, Sh.powD, arI, gv_guard, skipS, runB, Sh.envOf, par2S, par3S, gv_ifS, gv_eIf, gv_orB, gv_andB, asB, List.length_cons, List.length_nil, List.replicate, List.map, List.append_nil, List.cons_append, List.nil_append, setRefIt, ix_w, ix_c, ix_r, ix_t, pr_r, pr_t, eq_ii, ne_ii, appendS, lstOf, isNoneD, isND, id_eq, cmpI, gtI, leI, setOwnIt, true_and, wipeE, rng1, catD, negD, repD, ne_w, need_w, popRefM, pop_w, itemsD, Nat.reduceAdd, Nat.reduceSub, Int.reduceLT, lenV_lst, lenV_tup, lenV_str]
    refine lleaf_g2 hg ?_
    unfold shB at h
    have same : st.set l (.dic (kD .lst K)) = st := by
      apply List.ext_getElem?
      intro j
      by_cases q : l = j
      · subst q
        rw [List.getElem?_set_self (List.getElem?_eq_some_iff.mp hst).1, hst]
      · rw [List.getElem?_set_ne q]
    cases hl : leafB d with
    | true =>
      simp only [hl, if_true] at h
      rw [same] at h
      simp only [List.map_cons, List.map_nil, forS, setV, List.set_cons_succ, List.set_cons_zero, gv_bind, gv_seq, setS, Sh.retS, getV, List.getElem?_cons_succ, List.getElem?_cons_zero, gv_pure, mulD, addD, modD, Sh.intD, Sh.subD, Sh.divD, Sh.powD, arI, gv_guard, skipS, runB, Sh.envOf, par2S, par3S, gv_ifS, gv_eIf, gv_orB, gv_andB, asB, List.length_cons, List.length_nil, List.replicate, List.map, List.append_nil, List.cons_append, List.nil_append, setRefIt, ix_w, ix_c, ix_r, ix_t, pr_r, pr_t, eq_ii, ne_ii, appendS, lstOf, isNoneD, isND, id_eq, cmpI, gtI, leI, setOwnIt, true_and, wipeE, rng1, catD, negD, repD, ne_w, need_w, popRefM, pop_w, itemsD, Nat.reduceAdd, Nat.reduceSub, Int.reduceLT, lenV_lst, lenV_tup, lenV_str]
      exact ⟨fun _ => h, fun e => (by cases e)⟩
    | false =>
      simp only [hl, Bool.false_eq_true, if_false] at h
      simp only [List.map_cons, List.map_nil, forS, setV, List.set_cons_succ, List.set_cons_zero, gv_bind, gv_seq, setS, Sh.retS, getV, List.getElem?_cons_succ, List.getElem?_cons_zero, gv_pure, mulD, addD, modD, Sh.intD, Sh.subD, Sh.divD, Sh.powD, arI, gv_guard, skipS, runB, Sh.envOf, par2S, par3S, gv_ifS, gv_eIf, gv_orB, gv_andB, asB, List.length_cons, List.length_nil, List.replicate, List.map, List.append_nil, List.cons_append, List.nil_append, setRefIt, ix_w, ix_c, ix_r, ix_t, pr_r, pr_t, eq_ii, ne_ii, appendS, lstOf, isNoneD, isND, id_eq, cmpI, gtI, leI, setOwnIt, true_and, wipeE, rng1, catD, negD, repD, ne_w, need_w, popRefM, pop_w, itemsD, Nat.reduceAdd, Nat.reduceSub, Int.reduceLT, lenV_lst, lenV_tup, lenV_str]
      refine ⟨fun e => (by cases e), fun _ => ?_⟩
      have bad : P (.bl false) (st.set l (.dic (kD .lst K))) → P (.bl false) st := fun q => by rw [same] at q; exact q
      obtain ⟨a, ha, ht⟩ := g_ty hg
      by_cases hs : ∃ ds, d = .tup ds
      · obtain ⟨ds, rfl⟩ := hs
        rw [isi_run (x := .tup ds) (a := "tuple") rfl, tu_yes]
        simp only [List.map_cons, List.map_nil, forS, setV, List.set_cons_succ, List.set_cons_zero, gv_bind, gv_seq, setS, Sh.retS, getV, List.getElem?_cons_succ, List.getElem?_cons_zero, gv_pure, mulD, addD, modD, Sh.intD, Sh.subD, Sh.divD, Sh.powD, arI, gv_guard, skipS, runB, Sh.envOf, par2S, par3S, gv_ifS, gv_eIf, gv_orB, gv_andB, asB, List.length_cons, List.length_nil, List.replicate, List.map, List.append_nil, List.cons_append, List.nil_append, setRefIt, ix_w, ix_c, ix_r, ix_t, pr_r, pr_t, eq_ii, ne_ii, appendS, lstOf, isNoneD, isND, id_eq, cmpI, gtI, leI, setOwnIt, true_and, wipeE, rng1, catD, negD, repD, ne_w, need_w, popRefM, pop_w, itemsD, Nat.reduceAdd, Nat.reduceSub, Int.reduceLT, lenV_lst, lenV_tup, lenV_str]
        refine ⟨fun e => (by cases e), fun _ => ?_⟩
        match ds, hg, hd, h with
        | [], _, _, h => exact ⟨fun _ => ⟨fun _ => bad h, fun e => (by cases e)⟩, fun e => (by cases e)⟩
        | [y], _, _, h => exact ⟨fun _ => ⟨fun _ => bad (by cases y <;> exact h), fun e => (by cases e)⟩, fun e => (by cases e)⟩
        | y :: z :: z2 :: r, _, _, h =>
          have e1 : ((((y :: z :: z2 :: r).length : Nat) : Int) == 2) = false := by
            have q : ¬ (((y :: z :: z2 :: r).length : Nat) : Int) = 2 := by simp only [List.length_cons]; omega
            simpa using q
          refine ⟨fun _ => ⟨fun _ => bad (by cases y <;> cases z <;> exact h), fun e => (by cases e)⟩, fun e => ?_⟩
          exfalso
          have e : (!((((y :: z :: z2 :: r).length : Nat) : Int) == 2)) = false := e
          rw [e1] at e
          cases e
        | [y, x], hg, hd, h =>
          refine ⟨fun e => (by cases e), fun _ => ?_⟩
          rw [ix0]
          have hgg : (y.g && (x.g && true)) = true := hg
          simp only [Bool.and_eq_true, and_true] at hgg
          refine lname_g hgg.1 ?_
          simp only [List.map_cons, List.map_nil, forS, setV, List.set_cons_succ, List.set_cons_zero, gv_bind, gv_seq, setS, Sh.retS, getV, List.getElem?_cons_succ, List.getElem?_cons_zero, gv_pure, mulD, addD, modD, Sh.intD, Sh.subD, Sh.divD, Sh.powD, arI, gv_guard, skipS, runB, Sh.envOf, par2S, par3S, gv_ifS, gv_eIf, gv_orB, gv_andB, asB, List.length_cons, List.length_nil, List.replicate, List.map, List.append_nil, List.cons_append, List.nil_append, setRefIt, ix_w, ix_c, ix_r, ix_t, pr_r, pr_t, eq_ii, ne_ii, appendS, lstOf, isNoneD, isND, id_eq, cmpI, gtI, leI, setOwnIt, true_and, wipeE, rng1, catD, negD, repD, ne_w, need_w, popRefM, pop_w, itemsD, Nat.reduceAdd, Nat.reduceSub, Int.reduceLT, lenV_lst, lenV_tup, lenV_str]
          cases hn : nameB y with
          | false =>
            refine ⟨fun _ => ⟨fun _ => bad ?_, fun e => (by cases e)⟩, fun e => (by cases e)⟩
            cases y with
            | str w =>
              have hn : nameS w = false := hn
              cases x <;> first | exact h | (simp only [hn, Bool.false_eq_true, if_false] at h; exact h)
            | _ => exact h
          | true =>
            refine ⟨fun e => (by cases e), fun _ => ?_⟩
            rw [ix1]
            obtain ⟨b, hb, htb⟩ := g_ty hgg.2
            have ey : ∃ w, y = .str w := by cases y <;> first | exact ⟨_, rfl⟩ | cases hn
            obtain ⟨w, rfl⟩ := ey
            have hn : nameS w = true := hn
            by_cases hx : ∃ sons, x = .tup sons
            · obtain ⟨sons, rfl⟩ := hx
              rw [isi_run (x := .tup sons) (a := "tuple") rfl, tu_yes]
              simp only [List.map_cons, List.map_nil, forS, setV, List.set_cons_succ, List.set_cons_zero, gv_bind, gv_seq, setS, Sh.retS, getV, List.getElem?_cons_succ, List.getElem?_cons_zero, gv_pure, mulD, addD, modD, Sh.intD, Sh.subD, Sh.divD, Sh.powD, arI, gv_guard, skipS, runB, Sh.envOf, par2S, par3S, gv_ifS, gv_eIf, gv_orB, gv_andB, asB, List.length_cons, List.length_nil, List.replicate, List.map, List.append_nil, List.cons_append, List.nil_append, setRefIt, ix_w, ix_c, ix_r, ix_t, pr_r, pr_t, eq_ii, ne_ii, appendS, lstOf, isNoneD, isND, id_eq, cmpI, gtI, leI, setOwnIt, true_and, wipeE, rng1, catD, negD, repD, ne_w, need_w, popRefM, pop_w, itemsD, Nat.reduceAdd, Nat.reduceSub, Int.reduceLT, lenV_lst, lenV_tup, lenV_str]
              refine ⟨fun e => (by cases e), fun _ => ?_⟩
              rw [ix1]
              have hsg : gL sons = true := hgg.2
              have sg : ∀ x ∈ sons, x.g = true := fun x hx => by
                obtain ⟨i, hi, e⟩ := List.mem_iff_getElem.mp hx
                exact (item_of (by rw [List.getElem?_eq_getElem hi, e]) hsg).1
              have hbk : (D.tup [.str w, .tup sons]).bk = w.length + 1 + (bkL sons + 1 + 0) := rfl
              have hbl := len_bk (ds := sons)
              simp only [List.map_cons, List.map_nil, forS, setV, List.set_cons_succ, List.set_cons_zero, gv_bind, gv_seq, setS, Sh.retS, getV, List.getElem?_cons_succ, List.getElem?_cons_zero, gv_pure, mulD, addD, modD, Sh.intD, Sh.subD, Sh.divD, Sh.powD, arI, gv_guard, skipS, runB, Sh.envOf, par2S, par3S, gv_ifS, gv_eIf, gv_orB, gv_andB, asB, List.length_cons, List.length_nil, List.replicate, List.map, List.append_nil, List.cons_append, List.nil_append, setRefIt, ix_w, ix_c, ix_r, ix_t, pr_r, pr_t, eq_ii, ne_ii, appendS, lstOf, isNoneD, isND, id_eq, cmpI, gtI, leI, setOwnIt, true_and, wipeE, rng1, catD, negD, repD, ne_w, need_w, popRefM, pop_w, itemsD, Nat.reduceAdd, Nat.reduceSub, Int.reduceLT, lenV_lst, lenV_tup, lenV_str]
              refine words_loop (a0 := some (.tup [.str w, .tup sons])) (a1 := some (.ref l)) sons [] none sg (by rw [hbk] at hK; simp; omega) (fun ws x hw => ?_) fun hw ρ => ?_
              · rw [List.nil_append]
                have hall : (sons.map fun x => (sonW x).isSome).all id = true := by
                  cases hq : (sons.map fun x => (sonW x).isSome).all id with
                  | true => rfl
                  | false => rw [sonsW_none hq] at hw; cases hw
                simp only [hn, if_true, hw] at h
                simp only [List.map_cons, List.map_nil, forS, setV, List.set_cons_succ, List.set_cons_zero, gv_bind, gv_seq, setS, Sh.retS, getV, List.getElem?_cons_succ, List.getElem?_cons_zero, gv_pure, mulD, addD, modD, Sh.intD, Sh.subD, Sh.divD, Sh.powD, arI, gv_guard, skipS, runB, Sh.envOf, par2S, par3S, gv_ifS, gv_eIf, gv_orB, gv_andB, asB, List.length_cons, List.length_nil, List.replicate, List.map, List.append_nil, List.cons_append, List.nil_append, setRefIt, ix_w, ix_c, ix_r, ix_t, pr_r, pr_t, eq_ii, ne_ii, appendS, lstOf, isNoneD, isND, id_eq, cmpI, gtI, leI, setOwnIt, true_and, wipeE, rng1, catD, negD, repD, ne_w, need_w, popRefM, pop_w, itemsD, Nat.reduceAdd, Nat.reduceSub, Int.reduceLT, lenV_lst, lenV_tup, lenV_str]
                rw [show (D.tup [.lst [.str "no", .str "yes"], .lst [.str "fail", .str "no", .str "yes"]]) = D.tup [.lst (wSure.map .str), .lst (wUnsure.map .str)] from rfl, notIn_lst]
                simp only [List.map_cons, List.map_nil, forS, setV, List.set_cons_succ, List.set_cons_zero, gv_bind, gv_seq, setS, Sh.retS, getV, List.getElem?_cons_succ, List.getElem?_cons_zero, gv_pure, mulD, addD, modD, Sh.intD, Sh.subD, Sh.divD, Sh.powD, arI, gv_guard, skipS, runB, Sh.envOf, par2S, par3S, gv_ifS, gv_eIf, gv_orB, gv_andB, asB, List.length_cons, List.length_nil, List.replicate, List.map, List.append_nil, List.cons_append, List.nil_append, setRefIt, ix_w, ix_c, ix_r, ix_t, pr_r, pr_t, eq_ii, ne_ii, appendS, lstOf, isNoneD, isND, id_eq, cmpI, gtI, leI, setOwnIt, true_and, wipeE, rng1, catD, negD, repD, ne_w, need_w, popRefM, pop_w, itemsD, Nat.reduceAdd, Nat.reduceSub, Int.reduceLT, lenV_lst, lenV_tup, lenV_str]
                cases hc : (decide (ws = wSure) || decide (ws = wUnsure)) with
                | false =>
                  refine ⟨fun _ => ⟨fun _ => bad ?_, fun e => (by cases e)⟩, fun e => (by cases e)⟩
                  rw [hc] at h
                  exact h
                | true =>
                  refine ⟨fun e => (by cases e), fun _ => ?_⟩
                  rw [hc] at h
                  simp only [dget2M, List.map_cons, List.map_nil, forS, setV, List.set_cons_succ, List.set_cons_zero, gv_bind, gv_seq, setS, Sh.retS, getV, List.getElem?_cons_succ, List.getElem?_cons_zero, gv_pure, mulD, addD, modD, Sh.intD, Sh.subD, Sh.divD, Sh.powD, arI, gv_guard, skipS, runB, Sh.envOf, par2S, par3S, gv_ifS, gv_eIf, gv_orB, gv_andB, asB, List.length_cons, List.length_nil, List.replicate, List.map, List.append_nil, List.cons_append, List.nil_append, setRefIt, ix_w, ix_c, ix_r, ix_t, pr_r, pr_t, eq_ii, ne_ii, appendS, lstOf, isNoneD, isND, id_eq, cmpI, gtI, leI, setOwnIt, true_and, wipeE, rng1, catD, negD, repD, ne_w, need_w, popRefM, pop_w, itemsD, Nat.reduceAdd, Nat.reduceSub, Int.reduceLT, lenV_lst, lenV_tup, lenV_str]
                  rw [need_l hst]
                  rw [ix0]
                  rw [dg_l hst, kD_get]
                  have eg : ((getW K w).map fun ws => D.lst (ws.map .str)).getD (D.lst (ws.map .str)) = D.lst (((getW K w).getD ws).map .str) := by cases getW K w <;> rfl
                  rw [eg, ne_lst]
                  simp only [List.map_cons, List.map_nil, forS, setV, List.set_cons_succ, List.set_cons_zero, gv_bind, gv_seq, setS, Sh.retS, getV, List.getElem?_cons_succ, List.getElem?_cons_zero, gv_pure, mulD, addD, modD, Sh.intD, Sh.subD, Sh.divD, Sh.powD, arI, gv_guard, skipS, runB, Sh.envOf, par2S, par3S, gv_ifS, gv_eIf, gv_orB, gv_andB, asB, List.length_cons, List.length_nil, List.replicate, List.map, List.append_nil, List.cons_append, List.nil_append, setRefIt, ix_w, ix_c, ix_r, ix_t, pr_r, pr_t, eq_ii, ne_ii, appendS, lstOf, isNoneD, isND, id_eq, cmpI, gtI, leI, setOwnIt, true_and, wipeE, rng1, catD, negD, repD, ne_w, need_w, popRefM, pop_w, itemsD, Nat.reduceAdd, Nat.reduceSub, Int.reduceLT, lenV_lst, lenV_tup, lenV_str]
                  by_cases hq : (getW K w).getD ws = ws
                  · have hq' : decide ((getW K w).getD ws = ws) = true := decide_eq_true hq
                    simp only [hq', Bool.and_self, if_true] at h
                    simp only [hq']
                    refine ⟨fun e => (by cases e), fun _ => ?_⟩
                    simp only [setRefMv, getMv, isObjD, List.map_cons, List.map_nil, forS, setV, List.set_cons_succ, List.set_cons_zero, gv_bind, gv_seq, setS, Sh.retS, getV, List.getElem?_cons_succ, List.getElem?_cons_zero, gv_pure, mulD, addD, modD, Sh.intD, Sh.subD, Sh.divD, Sh.powD, arI, gv_guard, skipS, runB, Sh.envOf, par2S, par3S, gv_ifS, gv_eIf, gv_orB, gv_andB, asB, List.length_cons, List.length_nil, List.replicate, List.map, List.append_nil, List.cons_append, List.nil_append, setRefIt, ix_w, ix_c, ix_r, ix_t, pr_r, pr_t, eq_ii, ne_ii, appendS, lstOf, isNoneD, isND, id_eq, cmpI, gtI, leI, setOwnIt, true_and, wipeE, rng1, catD, negD, repD, ne_w, need_w, popRefM, pop_w, itemsD, Nat.reduceAdd, Nat.reduceSub, Int.reduceLT, lenV_lst, lenV_tup, lenV_str]
                    rw [ix0]
                    have hKl : (kD .lst K).length < 16777216 := by unfold kD; rw [List.length_map]; omega
                    rw [put_l hst hKl, kD_put]
                    have hpl := putW_len (K := K) (w := w) (ws := ws)
                    have hll : l < st.length := (List.getElem?_eq_some_iff.mp hst).1
                    rw [ix1]
                    simp only [List.map_cons, List.map_nil, forS, setV, List.set_cons_succ, List.set_cons_zero, gv_bind, gv_seq, setS, Sh.retS, getV, List.getElem?_cons_succ, List.getElem?_cons_zero, gv_pure, mulD, addD, modD, Sh.intD, Sh.subD, Sh.divD, Sh.powD, arI, gv_guard, skipS, runB, Sh.envOf, par2S, par3S, gv_ifS, gv_eIf, gv_orB, gv_andB, asB, List.length_cons, List.length_nil, List.replicate, List.map, List.append_nil, List.cons_append, List.nil_append, setRefIt, ix_w, ix_c, ix_r, ix_t, pr_r, pr_t, eq_ii, ne_ii, appendS, lstOf, isNoneD, isND, id_eq, cmpI, gtI, leI, setOwnIt, true_and, wipeE, rng1, catD, negD, repD, ne_w, need_w, popRefM, pop_w, itemsD, Nat.reduceAdd, Nat.reduceSub, Int.reduceLT, lenV_lst, lenV_tup, lenV_str]
                    refine comp_keepI (κ := Knd) (F := fun x K => (!(shB n (sonS x) K).1, (shB n (sonS x) K).2)) (St := fun K' => st.set l (.dic (kD .lst K'))) (I := fun xs K' => K'.length + bkL xs < 10000000) (fun x r K' hi => ?_) (fun x => rfl) sons (putW K w ws) _ (by rw [hbk] at hK; omega) (fun x r K' P hx hi hp => ?_) fun ys hys => ?_
                    · have h1 := shB_len n (sonS x) K'
                      have h2 := son_bk (s := x)
                      have hi : K'.length + (x.bk + 1 + bkL r) < 10000000 := hi
                      show (shB n (sonS x) K').2.length + bkL r < 10000000
                      omega
                    · have hs : (sonW x).isSome = true := by
                        have := List.all_eq_true.mp hall _ (List.mem_map.mpr ⟨x, hx, rfl⟩)
                        exact this
                      obtain ⟨w', ew⟩ := Option.isSome_iff_exists.mp hs
                      obtain ⟨y, rfl⟩ := son_is ew
                      simp only [List.map_cons, List.map_nil, forS, setV, List.set_cons_succ, List.set_cons_zero, gv_bind, gv_seq, setS, Sh.retS, getV, List.getElem?_cons_succ, List.getElem?_cons_zero, gv_pure, mulD, addD, modD, Sh.intD, Sh.subD, Sh.divD, Sh.powD, arI, gv_guard, skipS, runB, Sh.envOf, par2S, par3S, gv_ifS, gv_eIf, gv_orB, gv_andB, asB, List.length_cons, List.length_nil, List.replicate, List.map, List.append_nil, List.cons_append, List.nil_append, setRefIt, ix_w, ix_c, ix_r, ix_t, pr_r, pr_t, eq_ii, ne_ii, appendS, lstOf, isNoneD, isND, id_eq, cmpI, gtI, leI, setOwnIt, true_and, wipeE, rng1, catD, negD, repD, ne_w, need_w, popRefM, pop_w, itemsD, Nat.reduceAdd, Nat.reduceSub, Int.reduceLT, lenV_lst, lenV_tup, lenV_str]
                      rw [ix1]
                      have hgx := sg _ hx
                      have hgy : y.g = true := by
                        have q : (okS w' && (y.g && true)) = true := hgx
                        simp only [Bool.and_eq_true, and_true] at q
                        exact q.2
                      have hdx : (D.tup [.str w', y]).dp ≤ dpL sons := by
                        obtain ⟨i, hi, e⟩ := List.mem_iff_getElem.mp hx
                        exact (item_of (by rw [List.getElem?_eq_getElem hi, e]) hsg).2.2
                      have hdx' : max 0 (max y.dp 0) + 1 ≤ dpL sons := hdx
                      have hd' : max 0 (max (dpL sons + 1) 0) + 1 < n + 1 := hd
                      have hi' : K'.length + ((w'.length + 1 + (y.bk + 1 + 0)) + 1 + bkL r) < 10000000 := hi
                      refine lshape_g n y K' l (st.set l (.dic (kD .lst K'))) _ hgy (by omega) (by rw [List.getElem?_set_self hll]) (by omega) ?_
                      rw [List.set_set]
                      exact hp
                    · rw [eqL_nil, hys]
                      rw [flip_fold] at *
                      exact h
                  · have hq' : decide ((getW K w).getD ws = ws) = false := decide_eq_false hq
                    simp only [hq', Bool.and_false, Bool.false_eq_true, if_false] at h
                    simp only [hq']
                    exact ⟨fun _ => bad h, fun e => (by cases e)⟩
              · simp only [hn, if_true, hw] at h
                simp only [List.map_cons, List.map_nil, forS, setV, List.set_cons_succ, List.set_cons_zero, gv_bind, gv_seq, setS, Sh.retS, getV, List.getElem?_cons_succ, List.getElem?_cons_zero, gv_pure, mulD, addD, modD, Sh.intD, Sh.subD, Sh.divD, Sh.powD, arI, gv_guard, skipS, runB, Sh.envOf, par2S, par3S, gv_ifS, gv_eIf, gv_orB, gv_andB, asB, List.length_cons, List.length_nil, List.replicate, List.map, List.append_nil, List.cons_append, List.nil_append, setRefIt, ix_w, ix_c, ix_r, ix_t, pr_r, pr_t, eq_ii, ne_ii, appendS, lstOf, isNoneD, isND, id_eq, cmpI, gtI, leI, setOwnIt, true_and, wipeE, rng1, catD, negD, repD, ne_w, need_w, popRefM, pop_w, itemsD, Nat.reduceAdd, Nat.reduceSub, Int.reduceLT, lenV_lst, lenV_tup, lenV_str]
                exact bad h
            · have hnb : b ∈ ["NoneType", "bool", "int", "str", "list", "dict"] := by
                have hg2 := hgg.2
                cases x <;> first | (cases hg2; done) | (cases htb; simp; done) | exact absurd ⟨_, rfl⟩ hx
              rw [isi_run htb, tu_no b hnb]
              simp only [List.map_cons, List.map_nil, forS, setV, List.set_cons_succ, List.set_cons_zero, gv_bind, gv_seq, setS, Sh.retS, getV, List.getElem?_cons_succ, List.getElem?_cons_zero, gv_pure, mulD, addD, modD, Sh.intD, Sh.subD, Sh.divD, Sh.powD, arI, gv_guard, skipS, runB, Sh.envOf, par2S, par3S, gv_ifS, gv_eIf, gv_orB, gv_andB, asB, List.length_cons, List.length_nil, List.replicate, List.map, List.append_nil, List.cons_append, List.nil_append, setRefIt, ix_w, ix_c, ix_r, ix_t, pr_r, pr_t, eq_ii, ne_ii, appendS, lstOf, isNoneD, isND, id_eq, cmpI, gtI, leI, setOwnIt, true_and, wipeE, rng1, catD, negD, repD, ne_w, need_w, popRefM, pop_w, itemsD, Nat.reduceAdd, Nat.reduceSub, Int.reduceLT, lenV_lst, lenV_tup, lenV_str]
              refine ⟨fun _ => bad ?_, fun e => (by cases e)⟩
              cases x <;> first | exact h | exact absurd ⟨_, rfl⟩ hx
      · have hn : a ∈ ["NoneType", "bool", "int", "str", "list", "dict"] := by
          cases d <;> first | (cases hg; done) | (cases ht; simp; done) | exact absurd ⟨_, rfl⟩ hs
        rw [isi_run ht, tu_no a hn]
        simp only [List.map_cons, List.map_nil, forS, setV, List.set_cons_succ, List.set_cons_zero, gv_bind, gv_seq, setS, Sh.retS, getV, List.getElem?_cons_succ, List.getElem?_cons_zero, gv_pure, mulD, addD, modD, Sh.intD, Sh.subD, Sh.divD, Sh.powD, arI, gv_guard, skipS, runB, Sh.envOf, par2S, par3S, gv_ifS, gv_eIf, gv_orB, gv_andB, asB, List.length_cons, List.length_nil, List.replicate, List.map, List.append_nil, List.cons_append, List.nil_append, setRefIt, ix_w, ix_c, ix_r, ix_t, pr_r, pr_t, eq_ii, ne_ii, appendS, lstOf, isNoneD, isND, id_eq, cmpI, gtI, leI, setOwnIt, true_and, wipeE, rng1, catD, negD, repD, ne_w, need_w, popRefM, pop_w, itemsD, Nat.reduceAdd, Nat.reduceSub, Int.reduceLT, lenV_lst, lenV_tup, lenV_str]
        refine ⟨fun _ => ⟨fun _ => bad ?_, fun e => (by cases e)⟩, fun e => (by cases e)⟩
        cases d <;> first | exact h | exact absurd ⟨_, rfl⟩ hs
end K60
namespace K60
open PySem PySem.Spec PyProof.Rows L2 Sh
theorem gv_alloc {d : D} {st : Sto} {P : D → Sto → Prop} : (allocD d).gives st P ↔ P (.ref st.length) (st ++ [d]) := Iff.rfl
theorem Dw.app {cs : List Int} {R : Sto} {T : Int} {st : Sto} (h : Dw cs R T st) (d : D) : Dw cs (R ++ [d]) T (st ++ [d]) := by
  obtain ⟨ws, r, t, rfl, q⟩ := h
  exact ⟨ws, r, t, rfl, q⟩
theorem app_get {st : Sto} {d : D} : (st ++ [d])[st.length]? = some d := by simp
theorem app_set {st : Sto} {d e : D} : (st ++ [d]).set st.length e = st ++ [e] := by simp
def Smal (x : D) : Prop := x.g = true ∧ x.dp < 40 ∧ x.bk < 10000000
theorem tree_run {cs : List Int} {R : Sto} {T : Int} {st : Sto} {x : D} (hx : Smal x) (h : Dw cs R T st) {P : D → Sto → Prop} (hp : ∀ R' st', Dw cs R' T st' → P (.bl (shB 40 x []).1) st') : (f_is_tree [x]).gives st P := by
  unfold f_is_tree b_is_tree
  simp only [List.map_cons, List.map_nil, forS, setV, List.set_cons_succ, List.set_cons_zero, gv_bind, gv_seq, setS, Sh.retS, getV, List.getElem?_cons_succ, List.getElem?_cons_zero, gv_pure, mulD, addD, modD, Sh.intD, Sh.subD, Sh.divD, Sh.powD, arI, gv_guard, skipS, runB, Sh.envOf, par2S, par3S, gv_ifS, gv_eIf, gv_orB, gv_andB, asB, List.length_cons, List.length_nil, List.replicate, List.map, List.append_nil, List.cons_append, List.nil_append, setRefIt, ix_w, ix_c, ix_r, ix_t, pr_r, pr_t, eq_ii, ne_ii, appendS, lstOf, isNoneD, isND, id_eq, cmpI, gtI, leI, setOwnIt, true_and, wipeE, rng1, catD, negD, repD, ne_w, need_w, popRefM, pop_w, itemsD, Nat.reduceAdd, Nat.reduceSub, Int.reduceLT, lenV_lst, lenV_tup, lenV_str]
  rw [gv_alloc]
  refine shaped_g 40 x [] st.length _ _ hx.1 hx.2.1 app_get (by simpa using hx.2.2) ?_
  rw [app_set]
  exact hp _ _ (h.app _)
theorem shape_run {cs : List Int} {R : Sto} {T : Int} {st : Sto} {x : D} (hx : Smal x) (h : Dw cs R T st) {P : D → Sto → Prop} (hp : ∀ R' st', Dw cs R' T st' → P (.bl (shB 40 x []).1) st') : (f__law_is_shape 40 [x, .ref st.length]).gives (st ++ [.dic []]) P := by
  refine lshape_g 40 x [] st.length _ _ hx.1 hx.2.1 app_get (by simpa using hx.2.2) ?_
  rw [app_set]
  exact hp _ _ (h.app _)
theorem Itm.smal {x : D} {b k : Nat} (h : Itm b k x) (hb : b < 10000000) (hk : k < 40) : Smal x := ⟨h.1, by have := h.2.2; omega, by have := h.2.1; omega⟩
theorem ne_bb {a b : Bool} {st : Sto} {P : D → Sto → Prop} : (neD (.bl a) (.bl b)).gives st P ↔ P (.bl (!(a == b))) st := by cases a <;> cases b <;> exact Iff.rfl
theorem ne_ss {a b : Str} {st : Sto} {P : D → Sto → Prop} : (neD (.str a) (.str b)).gives st P ↔ P (.bl (!(a == b))) st := Iff.rfl
/-! ### the names -/
def innD : D := .tup [.tup [.str "no", .tup [.str "over"]], .tup [.str "yes", .tup [.str "told", .bl false]]]
def pairD (w : Str) : D := .tup [.str w, innD]
def mixD (w : Str) : D := .tup [.str "zz", .tup [.tup [.str "no", .tup [.str w, innD]], .tup [.str "yes", .tup [.str w, .tup [.tup [.str "fail", .tup [.str "over"]], .tup [.str "no", .tup [.str "over"]], .tup [.str "yes", .tup [.str "told", .bl false]]]]]]]
def smalB (x : D) : Bool := x.g && decide (x.dp < 40) && decide (x.bk < 10000000)
theorem smal_of {x : D} (h : smalB x = true) : Smal x := by
  unfold smalB at h
  simp only [Bool.and_eq_true, decide_eq_true_eq] at h
  exact ⟨h.1.1, h.1.2, h.2⟩
def nwl : List Str := lab ++ (["told", "over", "failed", "hangs"] : List Str)
theorem nw_ok : (nwl.all fun w => smalB (pairD w) && smalB (mixD w) && (shB 40 (pairD w) []).1 && !(shB 40 (mixD w) []).1) = true := by decide +kernel
abbrev changeB : MS := (seqS (setS 4 (eCall (f__law_bent 10) (lCons (eV 1) (lCons (eV 4) (lCons (eV 3) (lCons (eC (.int 8)) lNil))))))
  skipS)
abbrev nameLoopB : MS := (seqS (setS 11 (eTup (lCons (eC (.str "zz")) (lCons (eTup (lCons (eTup (lCons (eC (.str "no")) (lCons (eTup (lCons (eV 7) (lCons (eV 6) lNil))) lNil))) (lCons (eTup (lCons (eC (.str "yes")) (lCons (eTup (lCons (eV 7) (lCons (Sh.e2 addD (eTup (lCons (eTup (lCons (eC (.str "fail")) (lCons (eTup (lCons (eC (.str "over")) lNil)) lNil))) lNil)) (eV 6)) lNil))) lNil))) lNil))) lNil))))
  (seqS (ifS (orB (tB (Sh.e2 (isBD not) (eCall f_is_tree (lCons (eTup (lCons (eV 7) (lCons (eV 6) lNil))) lNil)) (eC (.bl true)))) (tB (Sh.e2 (isBD not) (eCall f_is_tree (lCons (eV 11) lNil)) (eC (.bl false))))) (seqS (Sh.retS (eC (.bl false)))
  skipS) skipS)
  skipS))
abbrev turnB : MS := (seqS (setS 3 (eCall f__law_kinds (lCons (eV 1) (lCons (eC (.int 4)) (lCons (eC (.bl true)) lNil)))))
  (seqS (setS 4 (eCall f__law_drawn_tree (lCons (eV 1) (lCons (eV 3) (lCons (eC (.int 3)) lNil)))))
  (seqS (forE (iRng (eCall f__law_pick (lCons (eV 1) (lCons (eLst (lCons (eC (.int 0)) (lCons (eC (.int 0)) (lCons (eC (.int 1)) (lCons (eC (.int 1)) (lCons (eC (.int 2)) lNil)))))) lNil)))) (setV 5) changeB)
  (seqS (par2S 9 10 (lCons (eCall (f__law_is_shape 40) (lCons (eV 4) (lCons (eSto (eC (.dic []))) lNil))) (lCons (Sh.e1 reprD (eV 4)) lNil)))
  (seqS (ifS (orB (tB (Sh.e2 neD (Sh.e1 reprD (eLst (lCons (eCall f_is_tree (lCons (eV 4) lNil)) (lCons (eCallK f_is_tree (eV 4)) lNil)))) (Sh.e1 reprD (eLst (lCons (eV 9) (lCons (eV 9) lNil)))))) (tB (Sh.e2 neD (Sh.e1 reprD (eV 4)) (eV 10)))) (seqS (Sh.retS (eC (.bl false)))
  skipS) skipS)
  (seqS (setS 6 (eTup (lCons (eTup (lCons (eC (.str "no")) (lCons (eTup (lCons (eC (.str "over")) lNil)) lNil))) (lCons (eTup (lCons (eC (.str "yes")) (lCons (eTup (lCons (eC (.str "told")) (lCons (eC (.bl false)) lNil))) lNil))) lNil))))
  (seqS (forE (iSeq (eLst (lCons (eC (.str "told")) (lCons (eC (.str "over")) (lCons (eC (.str "failed")) (lCons (eC (.str "hangs")) (lCons (Sh.e2 ixD (Sh.e1 sortedD (eV 3)) (eC (.int 0))) lNil))))))) (setV 7) nameLoopB)
  (seqS (setS 8 (eCall f__law_odd (lCons (eV 1) lNil)))
  (seqS (ifS (tB (Sh.e2 neD (eCall f_is_tree (lCons (eV 8) lNil)) (eCall (f__law_is_shape 40) (lCons (eV 8) (lCons (eSto (eC (.dic []))) lNil))))) (seqS (Sh.retS (eC (.bl false)))
  skipS) skipS)
  skipS)))))))))
section
variable {a0 x2 x3 x4 x5 x6 x7 x8 x9 x10 x11 : Option D} {cs : List Int}
theorem isB_run {a b : Bool} {f : Bool → Bool} {st : Sto} {P : D → Sto → Prop} : (isBD f (.bl a) (.bl b)).gives st P ↔ P (.bl (f (decide (a = b)))) st := Iff.rfl
theorem name_loop {T : Int} {P : Fl × Sh.Env → Sto → Prop} : ∀ (ss : List Str) (R : Sto) (st : Sto) (x7 x11 : Option D), (∀ s ∈ ss, s ∈ nwl) → Dw cs R T st →
    (∀ R' st' x7 x11, Dw cs R' T st' → P (.nx, [a0, some (.ref 1), x2, x3, x4, x5, some innD, x7, x8, x9, x10, x11]) st') →
    (forS (setV 7) nameLoopB (ss.map .str) [a0, some (.ref 1), x2, x3, x4, x5, some innD, x7, x8, x9, x10, x11]).gives st P
  | [], R, st, x7, x11, _, h, hp => hp R st x7 x11 h
  | w :: ss, R, st, x7, x11, hs, h, hp => by
    have hw := List.all_eq_true.mp nw_ok w (hs w List.mem_cons_self)
    simp only [Bool.and_eq_true, Bool.not_eq_true'] at hw
    obtain ⟨⟨⟨h1, h2⟩, h3⟩, h4⟩ := hw
    simp only [List.map_cons, List.map_nil, forS, setV, List.set_cons_succ, List.set_cons_zero, gv_bind, gv_seq, setS, Sh.retS, getV, List.getElem?_cons_succ, List.getElem?_cons_zero, gv_pure, mulD, addD, modD, Sh.intD, Sh.subD, Sh.divD, Sh.powD, arI, gv_guard, skipS, runB, Sh.envOf, par2S, par3S, gv_ifS, gv_eIf, gv_orB, gv_andB, asB, List.length_cons, List.length_nil, List.replicate, List.map, List.append_nil, List.cons_append, List.nil_append, setRefIt, ix_w, ix_c, ix_r, ix_t, pr_r, pr_t, eq_ii, ne_ii, appendS, lstOf, isNoneD, isND, id_eq, cmpI, gtI, leI, setOwnIt, true_and, wipeE, rng1, catD, negD, repD, ne_w, need_w, popRefM, pop_w, itemsD, Nat.reduceAdd, Nat.reduceSub, Int.reduceLT, lenV_lst, lenV_tup, lenV_str]
    unfold innD
    simp only [List.map_cons, List.map_nil, forS, setV, List.set_cons_succ, List.set_cons_zero, gv_bind, gv_seq, setS, Sh.retS, getV, List.getElem?_cons_succ, List.getElem?_cons_zero, gv_pure, mulD, addD, modD, Sh.intD, Sh.subD, Sh.divD, Sh.powD, arI, gv_guard, skipS, runB, Sh.envOf, par2S, par3S, gv_ifS, gv_eIf, gv_orB, gv_andB, asB, List.length_cons, List.length_nil, List.replicate, List.map, List.append_nil, List.cons_append, List.nil_append, setRefIt, ix_w, ix_c, ix_r, ix_t, pr_r, pr_t, eq_ii, ne_ii, appendS, lstOf, isNoneD, isND, id_eq, cmpI, gtI, leI, setOwnIt, true_and, wipeE, rng1, catD, negD, repD, ne_w, need_w, popRefM, pop_w, itemsD, Nat.reduceAdd, Nat.reduceSub, Int.reduceLT, lenV_lst, lenV_tup, lenV_str]
    refine ⟨by decide, ?_⟩
    refine tree_run (x := pairD w) (smal_of h1) h fun R1 st1 d1 => ?_
    rw [h3]
    simp only [List.map_cons, List.map_nil, forS, setV, List.set_cons_succ, List.set_cons_zero, gv_bind, gv_seq, setS, Sh.retS, getV, List.getElem?_cons_succ, List.getElem?_cons_zero, gv_pure, mulD, addD, modD, Sh.intD, Sh.subD, Sh.divD, Sh.powD, arI, gv_guard, skipS, runB, Sh.envOf, par2S, par3S, gv_ifS, gv_eIf, gv_orB, gv_andB, asB, List.length_cons, List.length_nil, List.replicate, List.map, List.append_nil, List.cons_append, List.nil_append, setRefIt, ix_w, ix_c, ix_r, ix_t, pr_r, pr_t, eq_ii, ne_ii, appendS, lstOf, isNoneD, isND, id_eq, cmpI, gtI, leI, setOwnIt, true_and, wipeE, rng1, catD, negD, repD, ne_w, need_w, popRefM, pop_w, itemsD, Nat.reduceAdd, Nat.reduceSub, Int.reduceLT, lenV_lst, lenV_tup, lenV_str, isB_run]
    refine ⟨fun e => (by cases e), fun _ => ?_⟩
    refine tree_run (x := mixD w) (smal_of h2) d1 fun R2 st2 d2 => ?_
    rw [h4]
    simp only [List.map_cons, List.map_nil, forS, setV, List.set_cons_succ, List.set_cons_zero, gv_bind, gv_seq, setS, Sh.retS, getV, List.getElem?_cons_succ, List.getElem?_cons_zero, gv_pure, mulD, addD, modD, Sh.intD, Sh.subD, Sh.divD, Sh.powD, arI, gv_guard, skipS, runB, Sh.envOf, par2S, par3S, gv_ifS, gv_eIf, gv_orB, gv_andB, asB, List.length_cons, List.length_nil, List.replicate, List.map, List.append_nil, List.cons_append, List.nil_append, setRefIt, ix_w, ix_c, ix_r, ix_t, pr_r, pr_t, eq_ii, ne_ii, appendS, lstOf, isNoneD, isND, id_eq, cmpI, gtI, leI, setOwnIt, true_and, wipeE, rng1, catD, negD, repD, ne_w, need_w, popRefM, pop_w, itemsD, Nat.reduceAdd, Nat.reduceSub, Int.reduceLT, lenV_lst, lenV_tup, lenV_str, isB_run]
    refine ⟨fun e => (by cases e), fun _ => ?_⟩
    exact name_loop ss R2 st2 _ _ (fun s hs' => hs s (List.mem_cons_of_mem _ hs')) d2 hp
theorem change_loop {R : Sto} {ks : List (Str × Bool)} (hk : KOK ks) {P : Fl × Sh.Env → Sto → Prop} : ∀ (ds : List D) (b k : Nat) (T : Int) (st : Sto) (x : D) (x5 : Option D), Itm b k x → (b + 60) * 2 ^ ds.length ≤ 100000 → Dw cs R T st → T + 54 * ds.length < 2 ^ 39 →
    (∀ (x : D) (x5 : Option D) st', Itm 100000 (k + 3 * ds.length) x → Dw cs R (T + 54 * ds.length) st' → P (.nx, [a0, some (.ref 1), x2, some (.dic (ks.map kv)), some x, x5, x6, x7, x8, x9, x10, x11]) st') →
    (forS (setV 5) changeB ds [a0, some (.ref 1), x2, some (.dic (ks.map kv)), some x, x5, x6, x7, x8, x9, x10, x11]).gives st P
  | [], b, k, T, st, x, x5, hx, hb, h, hT, hp => hp x x5 st (hx.up (by simp at hb; omega) (by simp)) (by simpa using h)
  | d :: ds, b, k, T, st, x, x5, hx, hb, h, hT, hp => by
    have hl : T + 54 * ((ds.length : Int) + 1) < 2 ^ 39 := by simpa using hT
    have h2 : (2 * b + 60 + 60) * 2 ^ ds.length ≤ 100000 := by
      rw [List.length_cons, Nat.pow_succ] at hb
      have e : (2 * b + 60 + 60) * 2 ^ ds.length = (b + 60) * (2 ^ ds.length * 2) := by
        rw [show 2 * b + 60 + 60 = (b + 60) * 2 by omega, Nat.mul_assoc, Nat.mul_comm 2]
      omega
    have hb1 : b ≤ 100000 := by
      have : 1 ≤ 2 ^ (d :: ds).length := Nat.one_le_two_pow
      have := Nat.mul_le_mul_left (b + 60) this
      omega
    simp only [List.map_cons, List.map_nil, forS, setV, List.set_cons_succ, List.set_cons_zero, gv_bind, gv_seq, setS, Sh.retS, getV, List.getElem?_cons_succ, List.getElem?_cons_zero, gv_pure, mulD, addD, modD, Sh.intD, Sh.subD, Sh.divD, Sh.powD, arI, gv_guard, skipS, runB, Sh.envOf, par2S, par3S, gv_ifS, gv_eIf, gv_orB, gv_andB, asB, List.length_cons, List.length_nil, List.replicate, List.map, List.append_nil, List.cons_append, List.nil_append, setRefIt, ix_w, ix_c, ix_r, ix_t, pr_r, pr_t, eq_ii, ne_ii, appendS, lstOf, isNoneD, isND, id_eq, cmpI, gtI, leI, setOwnIt, true_and, wipeE, rng1, catD, negD, repD, ne_w, need_w, popRefM, pop_w, itemsD, Nat.reduceAdd, Nat.reduceSub, Int.reduceLT, lenV_lst, lenV_tup, lenV_str]
    refine M.gives_mono (bent_g hk 8 10 T st x b k (by decide) hx hb1 h (by omega)) fun y st1 ⟨hy, h1⟩ => ?_
    refine change_loop hk ds (2 * b + 60) (k + 3) (T + 6 * (((8 : Nat) : Int) + 1)) st1 y _ hy h2 h1 (by omega) fun x x5 st' q1 q2 => ?_
    exact hp x x5 st' (q1.up (Nat.le_refl _) (by rw [List.length_cons]; omega)) (q2.up (by rw [List.length_cons]; omega))
def En (a0 : Option D) (ρ : Sh.Env) : Prop := ∃ y2 y3 y4 y5 y6 y7 y8 y9 y10 y11, ρ = [a0, some (.ref 1), y2, y3, y4, y5, y6, y7, y8, y9, y10, y11]
theorem turn_g {R : Sto} {T : Int} {st : Sto} (h : Dw cs R T st) (hT : T + 2000 < 2 ^ 39) {P : Fl × Sh.Env → Sto → Prop} (hp : ∀ ρ R' st', En a0 ρ → Dw cs R' (T + 2000) st' → P (.nx, ρ) st') :
    (turnB [a0, some (.ref 1), x2, x3, x4, x5, x6, x7, x8, x9, x10, x11]).gives st P := by
  simp only [List.map_cons, List.map_nil, setV, List.set_cons_succ, List.set_cons_zero, gv_bind, gv_seq, setS, Sh.retS, getV, List.getElem?_cons_succ, List.getElem?_cons_zero, gv_pure, mulD, addD, modD, Sh.intD, Sh.subD, Sh.divD, Sh.powD, arI, gv_guard, skipS, runB, Sh.envOf, par2S, par3S, gv_ifS, gv_eIf, gv_orB, gv_andB, asB, List.length_cons, List.length_nil, List.replicate, List.map, List.append_nil, List.cons_append, List.nil_append, setRefIt, ix_w, ix_c, ix_r, ix_t, pr_r, pr_t, eq_ii, ne_ii, appendS, lstOf, isNoneD, isND, id_eq, cmpI, gtI, leI, setOwnIt, true_and, wipeE, rng1, catD, negD, repD, ne_w, need_w, popRefM, pop_w, itemsD, Nat.reduceAdd, Nat.reduceSub, Int.reduceLT, lenV_lst, lenV_tup, lenV_str]
  refine M.gives_mono (kinds_g h (by omega)) fun d st1 ⟨ks, e, hk, h1⟩ => ?_
  subst e
  refine M.gives_mono (drawn_g hk h1 (by omega)) fun x st2 ⟨hx, h2⟩ => ?_
  refine M.gives_mono (pick_g h2 (by omega) (xs := [.int 0, .int 0, .int 1, .int 1, .int 2]) (by simp) (by decide)) fun n st3 ⟨hn, h3⟩ => ?_
  have en : ∃ i : Int, n = .int i ∧ 0 ≤ i ∧ i ≤ 2 := by
    simp only [List.mem_cons, List.not_mem_nil, or_false] at hn
    rcases hn with rfl | rfl | rfl | rfl | rfl
    · exact ⟨0, rfl, by decide, by decide⟩
    · exact ⟨0, rfl, by decide, by decide⟩
    · exact ⟨1, rfl, by decide, by decide⟩
    · exact ⟨1, rfl, by decide, by decide⟩
    · exact ⟨2, rfl, by decide, by decide⟩
  obtain ⟨i, rfl, i0, i2⟩ := en
  simp only [List.map_cons, List.map_nil, setV, List.set_cons_succ, List.set_cons_zero, gv_bind, gv_seq, setS, Sh.retS, getV, List.getElem?_cons_succ, List.getElem?_cons_zero, gv_pure, mulD, addD, modD, Sh.intD, Sh.subD, Sh.divD, Sh.powD, arI, gv_guard, skipS, runB, Sh.envOf, par2S, par3S, gv_ifS, gv_eIf, gv_orB, gv_andB, asB, List.length_cons, List.length_nil, List.replicate, List.map, List.append_nil, List.cons_append, List.nil_append, setRefIt, ix_w, ix_c, ix_r, ix_t, pr_r, pr_t, eq_ii, ne_ii, appendS, lstOf, isNoneD, isND, id_eq, cmpI, gtI, leI, setOwnIt, true_and, wipeE, rng1, catD, negD, repD, ne_w, need_w, popRefM, pop_w, itemsD, Nat.reduceAdd, Nat.reduceSub, Int.reduceLT, lenV_lst, lenV_tup, lenV_str]
  have hr : (rangeD 0 i).length = i.toNat := by simp [rangeD]
  refine ⟨by omega, ?_⟩
  refine change_loop hk (rangeD 0 i) 2000 10 (T + 20 + 1000 + 1) st3 x x5 hx ?_ h3 ?_ fun x x5 st4 hx h4 => ?_
  · rw [hr]
    have : i.toNat ≤ 2 := by omega
    have := Nat.pow_le_pow_right (n := 2) (by decide) this
    have := Nat.mul_le_mul_left (2000 + 60) this
    omega
  · rw [hr]; omega
  have hs : Smal x := hx.smal (by decide) (by rw [hr]; omega)
  simp only [List.map_cons, List.map_nil, setV, List.set_cons_succ, List.set_cons_zero, gv_bind, gv_seq, setS, Sh.retS, getV, List.getElem?_cons_succ, List.getElem?_cons_zero, gv_pure, mulD, addD, modD, Sh.intD, Sh.subD, Sh.divD, Sh.powD, arI, gv_guard, skipS, runB, Sh.envOf, par2S, par3S, gv_ifS, gv_eIf, gv_orB, gv_andB, asB, List.length_cons, List.length_nil, List.replicate, List.map, List.append_nil, List.cons_append, List.nil_append, setRefIt, ix_w, ix_c, ix_r, ix_t, pr_r, pr_t, eq_ii, ne_ii, appendS, lstOf, isNoneD, isND, id_eq, cmpI, gtI, leI, setOwnIt, true_and, wipeE, rng1, catD, negD, repD, ne_w, need_w, popRefM, pop_w, itemsD, Nat.reduceAdd, Nat.reduceSub, Int.reduceLT, lenV_lst, lenV_tup, lenV_str, gv_alloc]
  refine shape_run hs h4 fun R5 st5 h5 => ?_
  obtain ⟨s, hs1, hs2⟩ := repr_g (d := x) hx.1 (by have := hx.2.1; omega) (by have := hx.2.2; rw [hr] at this; omega)
  refine hs2 _ _ ?_
  refine tree_run hs h5 fun R6 st6 h6 => ?_
  refine tree_run hs h6 fun R7 st7 h7 => ?_
  obtain ⟨s', hs1', hs2'⟩ := repr_g (d := .lst [.bl (shB 40 x []).1, .bl (shB 40 x []).1]) rfl (Nat.le_of_ble_eq_true rfl) (Nat.le_of_ble_eq_true rfl)
  refine hs2' _ _ ?_
  refine hs2' _ _ ?_
  rw [ne_ss]
  simp only [List.map_cons, List.map_nil, setV, List.set_cons_succ, List.set_cons_zero, gv_bind, gv_seq, setS, Sh.retS, getV, List.getElem?_cons_succ, List.getElem?_cons_zero, gv_pure, mulD, addD, modD, Sh.intD, Sh.subD, Sh.divD, Sh.powD, arI, gv_guard, skipS, runB, Sh.envOf, par2S, par3S, gv_ifS, gv_eIf, gv_orB, gv_andB, asB, List.length_cons, List.length_nil, List.replicate, List.map, List.append_nil, List.cons_append, List.nil_append, setRefIt, ix_w, ix_c, ix_r, ix_t, pr_r, pr_t, eq_ii, ne_ii, appendS, lstOf, isNoneD, isND, id_eq, cmpI, gtI, leI, setOwnIt, true_and, wipeE, rng1, catD, negD, repD, ne_w, need_w, popRefM, pop_w, itemsD, Nat.reduceAdd, Nat.reduceSub, Int.reduceLT, lenV_lst, lenV_tup, lenV_str, beq_self_eq_true, Bool.not_true]
  refine ⟨fun e => (by cases e), fun _ => ?_⟩
  refine hs2 _ _ ?_
  rw [ne_ss]
  simp only [List.map_cons, List.map_nil, setV, List.set_cons_succ, List.set_cons_zero, gv_bind, gv_seq, setS, Sh.retS, getV, List.getElem?_cons_succ, List.getElem?_cons_zero, gv_pure, mulD, addD, modD, Sh.intD, Sh.subD, Sh.divD, Sh.powD, arI, gv_guard, skipS, runB, Sh.envOf, par2S, par3S, gv_ifS, gv_eIf, gv_orB, gv_andB, asB, List.length_cons, List.length_nil, List.replicate, List.map, List.append_nil, List.cons_append, List.nil_append, setRefIt, ix_w, ix_c, ix_r, ix_t, pr_r, pr_t, eq_ii, ne_ii, appendS, lstOf, isNoneD, isND, id_eq, cmpI, gtI, leI, setOwnIt, true_and, wipeE, rng1, catD, negD, repD, ne_w, need_w, popRefM, pop_w, itemsD, Nat.reduceAdd, Nat.reduceSub, Int.reduceLT, lenV_lst, lenV_tup, lenV_str, beq_self_eq_true, Bool.not_true]
  refine ⟨fun e => (by cases e), fun _ => ?_⟩
  rw [sort_kv hk]
  obtain ⟨w, _, hw, hf⟩ := first_kv hk
  refine hf _ _ ?_
  refine name_loop (ss := ["told", "over", "failed", "hangs", w]) R7 _ _ _ (fun s hs => ?_) h7 fun R8 st8 x7 x11 h8 => ?_
  · unfold nwl
    simp only [List.mem_cons, List.not_mem_nil, or_false] at hs
    rcases hs with rfl | rfl | rfl | rfl | rfl
    · simp
    · simp
    · simp
    · simp
    · exact List.mem_append_left _ hw
  simp only [List.map_cons, List.map_nil, setV, List.set_cons_succ, List.set_cons_zero, gv_bind, gv_seq, setS, Sh.retS, getV, List.getElem?_cons_succ, List.getElem?_cons_zero, gv_pure, mulD, addD, modD, Sh.intD, Sh.subD, Sh.divD, Sh.powD, arI, gv_guard, skipS, runB, Sh.envOf, par2S, par3S, gv_ifS, gv_eIf, gv_orB, gv_andB, asB, List.length_cons, List.length_nil, List.replicate, List.map, List.append_nil, List.cons_append, List.nil_append, setRefIt, ix_w, ix_c, ix_r, ix_t, pr_r, pr_t, eq_ii, ne_ii, appendS, lstOf, isNoneD, isND, id_eq, cmpI, gtI, leI, setOwnIt, true_and, wipeE, rng1, catD, negD, repD, ne_w, need_w, popRefM, pop_w, itemsD, Nat.reduceAdd, Nat.reduceSub, Int.reduceLT, lenV_lst, lenV_tup, lenV_str]
  refine M.gives_mono (odd_g h8 (by rw [hr]; omega)) fun o st9 ⟨ho, h9⟩ => ?_
  have hso : Smal o := ho.smal (by decide) (by decide)
  refine tree_run hso h9 fun R10 st10 h10 => ?_
  rw [gv_alloc]
  refine shape_run hso h10 fun R11 st11 h11 => ?_
  rw [ne_bb]
  simp only [List.map_cons, List.map_nil, setV, List.set_cons_succ, List.set_cons_zero, gv_bind, gv_seq, setS, Sh.retS, getV, List.getElem?_cons_succ, List.getElem?_cons_zero, gv_pure, mulD, addD, modD, Sh.intD, Sh.subD, Sh.divD, Sh.powD, arI, gv_guard, skipS, runB, Sh.envOf, par2S, par3S, gv_ifS, gv_eIf, gv_orB, gv_andB, asB, List.length_cons, List.length_nil, List.replicate, List.map, List.append_nil, List.cons_append, List.nil_append, setRefIt, ix_w, ix_c, ix_r, ix_t, pr_r, pr_t, eq_ii, ne_ii, appendS, lstOf, isNoneD, isND, id_eq, cmpI, gtI, leI, setOwnIt, true_and, wipeE, rng1, catD, negD, repD, ne_w, need_w, popRefM, pop_w, itemsD, Nat.reduceAdd, Nat.reduceSub, Int.reduceLT, lenV_lst, lenV_tup, lenV_str, beq_self_eq_true, Bool.not_true]
  refine ⟨fun e => (by cases e), fun _ => ?_⟩
  exact hp _ R11 _ ⟨_, _, _, _, _, _, _, _, _, _, rfl⟩ (h11.up (by rw [hr]; omega))
end
theorem turns {a0 : Option D} {cs : List Int} {P : Fl × Sh.Env → Sto → Prop} : ∀ (ds : List D) (R : Sto) (T : Int) (st : Sto) (ρ : Sh.Env), En a0 ρ → Dw cs R T st → T + 2000 * (ds.length : Int) < 2 ^ 38 → (∀ ρ st', En a0 ρ → P (.nx, ρ) st') → (forS (setV 2) turnB ds ρ).gives st P
  | [], R, T, st, ρ, he, h, hT, hp => hp ρ st he
  | d :: ds, R, T, st, ρ, he, h, hT, hp => by
    obtain ⟨y2, y3, y4, y5, y6, y7, y8, y9, y10, y11, rfl⟩ := he
    have hl : T + 2000 * ((ds.length : Int) + 1) < 2 ^ 38 := by simpa using hT
    unfold forS
    show M.gives (do let rr ← turnB [a0, some (.ref 1), some d, y3, y4, y5, y6, y7, y8, y9, y10, y11]; match rr.1 with | .nx => forS (setV 2) turnB ds rr.2 | .ct => forS (setV 2) turnB ds rr.2 | .bk => pure (.nx, rr.2) | .rt d => pure (.rt d, rr.2)) st P
    rw [M.gives_bind]
    refine turn_g h (by omega) fun ρ' R' st' he' h' => ?_
    exact turns ds R' (T + 2000) st' ρ' he' h' (by omega) hp
/-! ### the start -/
theorem comp_fm {α : Type} {i : Nat} {t : Sh.Env → M Bool} {e : Sh.Env → M D} {ρ : Sh.Env} {st : Sto} {g : α → D} {p : α → Bool} {f : α → D} : ∀ (xs : List α) (P : List D → Sto → Prop),
    (∀ x ∈ xs, ∀ P : Bool → Sto → Prop, P (p x) st → (t (ρ.set i (some (g x)))).gives st P) → (∀ x ∈ xs, p x = true → ∀ P : D → Sto → Prop, P (f x) st → (e (ρ.set i (some (g x)))).gives st P) → P ((xs.filter p).map f) st → (compD (setV i) t e ρ (xs.map g)).gives st P
  | [], P, _, _, h => h
  | x :: xs, P, ht, he, h => by
    rw [List.map_cons]
    unfold compD
    show M.gives (do let b ← t (ρ.set i (some (g x))); if b = true then (do let y ← e (ρ.set i (some (g x))); let r ← compD (setV i) t e ρ (xs.map g); pure (y :: r)) else compD (setV i) t e ρ (xs.map g)) st P
    rw [M.gives_bind]
    refine ht x List.mem_cons_self _ ?_
    cases hb : p x with
    | true =>
      rw [if_pos rfl, M.gives_bind]
      refine he x List.mem_cons_self hb _ ?_
      rw [M.gives_bind]
      refine comp_fm xs _ (fun y hy => ht y (List.mem_cons_of_mem _ hy)) (fun y hy => he y (List.mem_cons_of_mem _ hy)) ?_
      rw [List.filter_cons, if_pos hb] at h
      exact h
    | false =>
      rw [if_neg (by simp)]
      refine comp_fm xs _ (fun y hy => ht y (List.mem_cons_of_mem _ hy)) (fun y hy => he y (List.mem_cons_of_mem _ hy)) ?_
      rw [List.filter_cons, if_neg (by rw [hb]; simp)] at h
      exact h
def absI (i : Int) : Int := if i < 0 then -i else i
theorem absI_nn (i : Int) : 0 ≤ absI i := by unfold absI; split <;> omega
theorem begun_g {ns : List Int} {P : D → Sto → Prop} (hp : ∀ cs st, Dw cs [] 0 st → P (.ref 1) st) : (f__law_begun [.frl (ns.map .int)]).gives [] P := by
  unfold f__law_begun b__law_begun
  simp only [List.map_cons, List.map_nil, forS, setV, List.set_cons_succ, List.set_cons_zero, gv_bind, gv_seq, setS, Sh.retS, getV, List.getElem?_cons_succ, List.getElem?_cons_zero, gv_pure, mulD, addD, modD, Sh.intD, Sh.subD, Sh.divD, Sh.powD, arI, gv_guard, skipS, runB, Sh.envOf, par2S, par3S, gv_ifS, gv_eIf, gv_orB, gv_andB, asB, List.length_cons, List.length_nil, List.replicate, List.map, List.append_nil, List.cons_append, List.nil_append, setRefIt, ix_w, ix_c, ix_r, ix_t, pr_r, pr_t, eq_ii, ne_ii, appendS, lstOf, isNoneD, isND, id_eq, cmpI, gtI, leI, setOwnIt, true_and, wipeE, rng1, catD, negD, repD, ne_w, need_w, popRefM, pop_w, itemsD, Nat.reduceAdd, Nat.reduceSub, Int.reduceLT, lenV_lst, lenV_tup, lenV_str]
  refine comp_fm (g := D.int) (p := fun i => geI (absI i) (10 ^ 18)) (f := fun i => D.int (absI i - 10 ^ 18)) ns _ (fun x _ P hP => ?_) (fun x _ _ P hP => ?_) ?_
  · simp only [List.map_cons, List.map_nil, forS, setV, List.set_cons_succ, List.set_cons_zero, gv_bind, gv_seq, setS, Sh.retS, getV, List.getElem?_cons_succ, List.getElem?_cons_zero, gv_pure, mulD, addD, modD, Sh.intD, Sh.subD, Sh.divD, Sh.powD, arI, gv_guard, skipS, runB, Sh.envOf, par2S, par3S, gv_ifS, gv_eIf, gv_orB, gv_andB, asB, List.length_cons, List.length_nil, List.replicate, List.map, List.append_nil, List.cons_append, List.nil_append, setRefIt, ix_w, ix_c, ix_r, ix_t, pr_r, pr_t, eq_ii, ne_ii, appendS, lstOf, isNoneD, isND, id_eq, cmpI, gtI, leI, setOwnIt, true_and, wipeE, rng1, catD, negD, repD, ne_w, need_w, popRefM, pop_w, itemsD, Nat.reduceAdd, Nat.reduceSub, Int.reduceLT, lenV_lst, lenV_tup, lenV_str, absD]
    exact ⟨by decide +kernel, hP⟩
  · simp only [List.map_cons, List.map_nil, forS, setV, List.set_cons_succ, List.set_cons_zero, gv_bind, gv_seq, setS, Sh.retS, getV, List.getElem?_cons_succ, List.getElem?_cons_zero, gv_pure, mulD, addD, modD, Sh.intD, Sh.subD, Sh.divD, Sh.powD, arI, gv_guard, skipS, runB, Sh.envOf, par2S, par3S, gv_ifS, gv_eIf, gv_orB, gv_andB, asB, List.length_cons, List.length_nil, List.replicate, List.map, List.append_nil, List.cons_append, List.nil_append, setRefIt, ix_w, ix_c, ix_r, ix_t, pr_r, pr_t, eq_ii, ne_ii, appendS, lstOf, isNoneD, isND, id_eq, cmpI, gtI, leI, setOwnIt, true_and, wipeE, rng1, catD, negD, repD, ne_w, need_w, popRefM, pop_w, itemsD, Nat.reduceAdd, Nat.reduceSub, Int.reduceLT, lenV_lst, lenV_tup, lenV_str, absD]
    exact ⟨by decide +kernel, hP⟩
  rw [gv_alloc]
  simp only [List.map_cons, List.map_nil, forS, setV, List.set_cons_succ, List.set_cons_zero, gv_bind, gv_seq, setS, Sh.retS, getV, List.getElem?_cons_succ, List.getElem?_cons_zero, gv_pure, mulD, addD, modD, Sh.intD, Sh.subD, Sh.divD, Sh.powD, arI, gv_guard, skipS, runB, Sh.envOf, par2S, par3S, gv_ifS, gv_eIf, gv_orB, gv_andB, asB, List.length_cons, List.length_nil, List.replicate, List.map, List.append_nil, List.cons_append, List.nil_append, setRefIt, ix_w, ix_c, ix_r, ix_t, pr_r, pr_t, eq_ii, ne_ii, appendS, lstOf, isNoneD, isND, id_eq, cmpI, gtI, leI, setOwnIt, true_and, wipeE, rng1, catD, negD, repD, ne_w, need_w, popRefM, pop_w, itemsD, Nat.reduceAdd, Nat.reduceSub, Int.reduceLT, lenV_lst, lenV_tup, lenV_str]
  refine comp_fm (g := D.int) (p := fun _ => true) (f := fun i => D.int (absI i % 2147483629)) ns _ (fun x _ P hP => hP) (fun x _ _ P hP => ?_) ?_
  · simp only [List.map_cons, List.map_nil, forS, setV, List.set_cons_succ, List.set_cons_zero, gv_bind, gv_seq, setS, Sh.retS, getV, List.getElem?_cons_succ, List.getElem?_cons_zero, gv_pure, mulD, addD, modD, Sh.intD, Sh.subD, Sh.divD, Sh.powD, arI, gv_guard, skipS, runB, Sh.envOf, par2S, par3S, gv_ifS, gv_eIf, gv_orB, gv_andB, asB, List.length_cons, List.length_nil, List.replicate, List.map, List.append_nil, List.cons_append, List.nil_append, setRefIt, ix_w, ix_c, ix_r, ix_t, pr_r, pr_t, eq_ii, ne_ii, appendS, lstOf, isNoneD, isND, id_eq, cmpI, gtI, leI, setOwnIt, true_and, wipeE, rng1, catD, negD, repD, ne_w, need_w, popRefM, pop_w, itemsD, Nat.reduceAdd, Nat.reduceSub, Int.reduceLT, lenV_lst, lenV_tup, lenV_str, absD]
    exact ⟨modC_ok (by decide), hP⟩
  have hk : ∀ a b c d : D, keysOk [(D.str (Str.ofString "wide"), a), (D.str (Str.ofString "cells"), b), (D.str (Str.ofString "rest"), c), (D.str (Str.ofString "turn"), d)] = true := fun a b c d => by
    have n1 := n_wr
    have n2 := n_wc
    have n3 := n_wt
    have n4 := n_cr
    have n5 := n_ct
    have n6 := n_rt
    rfl
  unfold dispD
  rw [hk, if_pos (by rfl)]
  simp only [List.map_cons, List.map_nil, forS, setV, List.set_cons_succ, List.set_cons_zero, gv_bind, gv_seq, setS, Sh.retS, getV, List.getElem?_cons_succ, List.getElem?_cons_zero, gv_pure, mulD, addD, modD, Sh.intD, Sh.subD, Sh.divD, Sh.powD, arI, gv_guard, skipS, runB, Sh.envOf, par2S, par3S, gv_ifS, gv_eIf, gv_orB, gv_andB, asB, List.length_cons, List.length_nil, List.replicate, List.map, List.append_nil, List.cons_append, List.nil_append, setRefIt, ix_w, ix_c, ix_r, ix_t, pr_r, pr_t, eq_ii, ne_ii, appendS, lstOf, isNoneD, isND, id_eq, cmpI, gtI, leI, setOwnIt, true_and, wipeE, rng1, catD, negD, repD, ne_w, need_w, popRefM, pop_w, itemsD, Nat.reduceAdd, Nat.reduceSub, Int.reduceLT, lenV_lst, lenV_tup, lenV_str]
  rw [gv_alloc]
  have hf : (ns.filter fun _ => true) = ns := List.filter_eq_self.mpr (by simp)
  rw [hf]
  refine hp (ns.map fun i => absI i % 2147483629) _ ⟨(ns.filter fun i => geI (absI i) (10 ^ 18)).map fun i => absI i - 10 ^ 18, 0, 0, ?_, ?_, ?_, Int.le_refl _, Int.le_refl _, Int.le_refl _⟩
  · unfold dst drw
    rw [List.map_map, List.map_map]
    rfl
  · intro w hw
    obtain ⟨i, hi, rfl⟩ := List.mem_map.mp hw
    have := (List.mem_filter.mp hi).2
    unfold geI at this
    have := of_decide_eq_true this
    omega
  · intro c hc
    obtain ⟨i, hi, rfl⟩ := List.mem_map.mp hc
    exact Int.emod_nonneg _ (by decide)
theorem law_true (ns : List Int) (h : ns.length ≤ 63) : (f_law [.frl (ns.map .int)]).gives [] fun d _ => d = .bl true := by
  unfold f_law b_law
  simp only [List.map_cons, List.map_nil, forS, setV, List.set_cons_succ, List.set_cons_zero, gv_bind, gv_seq, setS, Sh.retS, getV, List.getElem?_cons_succ, List.getElem?_cons_zero, gv_pure, mulD, addD, modD, Sh.intD, Sh.subD, Sh.divD, Sh.powD, arI, gv_guard, skipS, runB, Sh.envOf, par2S, par3S, gv_ifS, gv_eIf, gv_orB, gv_andB, asB, List.length_cons, List.length_nil, List.replicate, List.map, List.append_nil, List.cons_append, List.nil_append, setRefIt, ix_w, ix_c, ix_r, ix_t, pr_r, pr_t, eq_ii, ne_ii, appendS, lstOf, isNoneD, isND, id_eq, cmpI, gtI, leI, setOwnIt, true_and, wipeE, rng1, catD, negD, repD, ne_w, need_w, popRefM, pop_w, itemsD, Nat.reduceAdd, Nat.reduceSub, Int.reduceLT, lenV_lst, lenV_tup, lenV_str]
  refine begun_g fun cs st hd => ?_
  simp only [List.map_cons, List.map_nil, forS, setV, List.set_cons_succ, List.set_cons_zero, gv_bind, gv_seq, setS, Sh.retS, getV, List.getElem?_cons_succ, List.getElem?_cons_zero, gv_pure, mulD, addD, modD, Sh.intD, Sh.subD, Sh.divD, Sh.powD, arI, gv_guard, skipS, runB, Sh.envOf, par2S, par3S, gv_ifS, gv_eIf, gv_orB, gv_andB, asB, List.length_cons, List.length_nil, List.replicate, List.map, List.append_nil, List.cons_append, List.nil_append, setRefIt, ix_w, ix_c, ix_r, ix_t, pr_r, pr_t, eq_ii, ne_ii, appendS, lstOf, isNoneD, isND, id_eq, cmpI, gtI, leI, setOwnIt, true_and, wipeE, rng1, catD, negD, repD, ne_w, need_w, popRefM, pop_w, itemsD, Nat.reduceAdd, Nat.reduceSub, Int.reduceLT, lenV_lst, lenV_tup, lenV_str, minD]
  rw [lenV_frl]
  simp only [List.map_cons, List.map_nil, forS, setV, List.set_cons_succ, List.set_cons_zero, gv_bind, gv_seq, setS, Sh.retS, getV, List.getElem?_cons_succ, List.getElem?_cons_zero, gv_pure, mulD, addD, modD, Sh.intD, Sh.subD, Sh.divD, Sh.powD, arI, gv_guard, skipS, runB, Sh.envOf, par2S, par3S, gv_ifS, gv_eIf, gv_orB, gv_andB, asB, List.length_cons, List.length_nil, List.replicate, List.map, List.append_nil, List.cons_append, List.nil_append, setRefIt, ix_w, ix_c, ix_r, ix_t, pr_r, pr_t, eq_ii, ne_ii, appendS, lstOf, isNoneD, isND, id_eq, cmpI, gtI, leI, setOwnIt, true_and, wipeE, rng1, catD, negD, repD, ne_w, need_w, popRefM, pop_w, itemsD, Nat.reduceAdd, Nat.reduceSub, Int.reduceLT, lenV_lst, lenV_tup, lenV_str]
  have hb : (if (20 : Int) < ((ns.map D.int).length : Nat) then (20 : Int) else ((ns.map D.int).length : Nat)) ≤ 20 ∧ 0 ≤ (if (20 : Int) < ((ns.map D.int).length : Nat) then (20 : Int) else ((ns.map D.int).length : Nat)) := by split <;> omega
  generalize (if (20 : Int) < ((ns.map D.int).length : Nat) then (20 : Int) else ((ns.map D.int).length : Nat)) = m at *
  refine ⟨by omega, ?_⟩
  refine turns _ [] 0 st _ ⟨_, _, _, _, _, _, _, _, _, _, rfl⟩ hd ?_ fun ρ st' he => ?_
  · simp only [rangeD, List.length_map, List.length_range]
    omega
  · simp only [List.map_cons, List.map_nil, forS, setV, List.set_cons_succ, List.set_cons_zero, gv_bind, gv_seq, setS, Sh.retS, getV, List.getElem?_cons_succ, List.getElem?_cons_zero, gv_pure, mulD, addD, modD, Sh.intD, Sh.subD, Sh.divD, Sh.powD, arI, gv_guard, skipS, runB, Sh.envOf, par2S, par3S, gv_ifS, gv_eIf, gv_orB, gv_andB, asB, List.length_cons, List.length_nil, List.replicate, List.map, List.append_nil, List.cons_append, List.nil_append, setRefIt, ix_w, ix_c, ix_r, ix_t, pr_r, pr_t, eq_ii, ne_ii, appendS, lstOf, isNoneD, isND, id_eq, cmpI, gtI, leI, setOwnIt, true_and, wipeE, rng1, catD, negD, repD, ne_w, need_w, popRefM, pop_w, itemsD, Nat.reduceAdd, Nat.reduceSub, Int.reduceLT, lenV_lst, lenV_tup, lenV_str]
end K60
set_option maxHeartbeats 4000000
/-! that the text of turnedlooks_k60_trees_judged computes it (printed by wip/gen.py) -/
namespace K60
open PySem PySem.Spec PyProof.Rows L2 Sh
def topS (i : Nat) : Stmt := PySem.Challenge.pw_turnedlooks_k60_trees_judged.main.body.getD i (.Pass ⟨0, 0, 0, 0⟩)
def G_LETTERS (K : PySem.W.Frag) (mg : Str → Option Value) : Prop := ∀ (cl : String → Option Addr) (md : List Md) {X : Cx} {pos : Pos}, X.K = K → X.mg = mg → Gl X "LETTERS" → SK cl md X .val (.Name "LETTERS" pos) (eC c_LETTERS)
def G_SURE (K : PySem.W.Frag) (mg : Str → Option Value) : Prop := ∀ (cl : String → Option Addr) (md : List Md) {X : Cx} {pos : Pos}, X.K = K → X.mg = mg → Gl X "SURE" → SK cl md X .val (.Name "SURE" pos) (eC c_SURE)
def G_UNSURE (K : PySem.W.Frag) (mg : Str → Option Value) : Prop := ∀ (cl : String → Option Addr) (md : List Md) {X : Cx} {pos : Pos}, X.K = K → X.mg = mg → Gl X "UNSURE" → SK cl md X .val (.Name "UNSURE" pos) (eC c_UNSURE)
/-! ### is_name -/
abbrev s_is_name : Stmt := topS 2
abbrev n_is_name : List Str := ["thing", "sign"]
abbrev d_is_name : List Md := [.val, .val]
theorem sc_is_name : FnScope n_is_name ["thing"] (defScope s_is_name) := ⟨rfl, rfl, rfl, by decide +kernel, rfl, by decide +kernel, by decide +kernel⟩
section
variable {P : Program} {w : World} {K : PySem.W.Frag} {mg : Str → Option Value} {base : Heap} {cl : String → Option Addr}
theorem ok_is_name {f : Addr} {fd : FuncData} (F : Fun K "is_name" "is_name" s_is_name f fd) (hsy : HasSys base) (m_all : mg "all" = none) (m_isinstance : mg "isinstance" = none) (m_len : mg "len" = none) (m_str : mg "str" = none) (g_LETTERS : G_LETTERS K mg) : FnG P w K mg base CX0 1 f fd ["thing"] (spF ⟨K, cl⟩ [.val] .val f_is_name) :=
  fn_okG (k := 0) (md := d_is_name) F sc_is_name rfl rfl (fun cdv A outer s0 H E B hB hgu hr => by
    obtain ⟨μ0, F0, H0, rk0⟩ := B
    have hB : rk0 = .val := hB
    subst hB
    have hu1 := room_u (n := 1) hr (by decide)
    have hu64 := room_u (n := 64) hr (by decide)
    have hu70 := room_u (n := 70) hr (by decide)
    have hu151 := room_u (n := 151) hr (by decide)
    have nd := sc_is_name.nd
    exact (ss_cons (ss_retR (sr_of (sk_and (sk_isi "str" (sk_var 0) rfl m_isinstance rfl m_str) (sk_and (sk_chain op_le op_le (o2_cmpI (f := leI)) (o2_cmpI (f := leI)) sk_int (sk_b1 call_len o1_len rfl m_len (sk_var 0)) sk_int) (sk_one (sk_b1 (cr_all rfl) o1_all rfl m_all (sk_comp (own := [("sign", 1)]) rfl nd (show blkC n_is_name (defScope s_is_name) _ _ = true by decide +kernel) (by decide) (si_str (sk_var 0)) (fun _ _ _ _ _ => (sg_name 1 nd)) (fun _ _ _ _ _ => pts_none) (fun _ _ _ _ _ => (sk_cmp (op_inP hu70) o2_in (sk_var 1) (g_LETTERS cl _ rfl rfl rfl) rfl)))))))))
  ss_nil))
end
/-! ### is_leaf -/
abbrev s_is_leaf : Stmt := topS 6
abbrev n_is_leaf : List Str := ["thing"]
abbrev d_is_leaf : List Md := [.val]
theorem sc_is_leaf : FnScope n_is_leaf ["thing"] (defScope s_is_leaf) := ⟨rfl, rfl, rfl, by decide +kernel, rfl, by decide +kernel, by decide +kernel⟩
section
variable {P : Program} {w : World} {K : PySem.W.Frag} {mg : Str → Option Value} {base : Heap} {cl : String → Option Addr}
theorem ok_is_leaf {f : Addr} {fd : FuncData} (F : Fun K "is_leaf" "is_leaf" s_is_leaf f fd) (hsy : HasSys base) (m_bool : mg "bool" = none) (m_isinstance : mg "isinstance" = none) (m_len : mg "len" = none) (m_str : mg "str" = none) (m_tuple : mg "tuple" = none)
    (h_is_name : Has P w K mg base "is_name" 1 ["thing"] (spF ⟨K, cl⟩ [.val] .val f_is_name)) : FnG P w K mg base CX0 2 f fd ["thing"] (spF ⟨K, cl⟩ [.val] .val f_is_leaf) :=
  fn_okG (k := 1) (md := d_is_leaf) F sc_is_leaf rfl rfl (fun cdv A outer s0 H E B hB hgu hr => by
    obtain ⟨μ0, F0, H0, rk0⟩ := B
    have hB : rk0 = .val := hB
    subst hB
    have hu1 := room_u (n := 1) hr (by decide)
    have hu64 := room_u (n := 64) hr (by decide)
    have hu70 := room_u (n := 70) hr (by decide)
    have hu151 := room_u (n := 151) hr (by decide)
    have nd := sc_is_leaf.nd
    exact (ss_cons (ss_if (sw_t (sw_or (st_not (st_val (sk_isi "tuple" (sk_var 0) rfl m_isinstance rfl m_tuple))) (sw_or (st_cmp (op_eqP hu64) o2_eq (sk_b1 call_len o1_len rfl m_len (sk_var 0)) sk_int rfl) (sw_or1 (st_not (st_val (sk_isi "str" (sk_ix hu1 (sk_var 0) sk_int) rfl m_isinstance rfl m_str))))))) (ss_cons (ss_retR (sr_of sk_bl))
  ss_nil) ss_nil)
  (ss_cons (ss_if (st_cmp (op_eqP hu64) o2_eq (sk_ix hu1 (sk_var 0) sk_int) sk_str rfl) (ss_cons (ss_retR (sr_of (sk_cmp (op_eqP hu64) o2_eq (sk_b1 call_len o1_len rfl m_len (sk_var 0)) sk_int rfl)))
  ss_nil) ss_nil)
  (ss_cons (ss_if (st_cmp (op_neP hu64) o2_ne (sk_b1 call_len o1_len rfl m_len (sk_var 0)) sk_int rfl) (ss_cons (ss_retR (sr_of sk_bl))
  ss_nil) ss_nil)
  (ss_cons (ss_retR (sr_of (sk_or (sk_and (sk_cmp (op_eqP hu64) o2_eq (sk_ix hu1 (sk_var 0) sk_int) sk_str rfl) (sk_one (sk_isi "bool" (sk_ix hu1 (sk_var 0) sk_int) rfl m_isinstance rfl m_bool))) (sk_one (sk_and (sk_cmp (op_eqP hu64) o2_eq (sk_ix hu1 (sk_var 0) sk_int) sk_str rfl) (sk_one (sk_callH h_is_name (by omega) hgu hr rfl (sa_cons (sk_ix hu1 (sk_var 0) sk_int) sa_nil))))))))
  ss_nil)))))
end
/-! ### is_son -/
abbrev s_is_son : Stmt := topS 7
abbrev n_is_son : List Str := ["thing"]
abbrev d_is_son : List Md := [.val]
theorem sc_is_son : FnScope n_is_son ["thing"] (defScope s_is_son) := ⟨rfl, rfl, rfl, by decide +kernel, rfl, by decide +kernel, by decide +kernel⟩
section
variable {P : Program} {w : World} {K : PySem.W.Frag} {mg : Str → Option Value} {base : Heap} {cl : String → Option Addr}
theorem ok_is_son {f : Addr} {fd : FuncData} (F : Fun K "is_son" "is_son" s_is_son f fd) (hsy : HasSys base) (m_isinstance : mg "isinstance" = none) (m_len : mg "len" = none) (m_str : mg "str" = none) (m_tuple : mg "tuple" = none) : FnG P w K mg base CX0 1 f fd ["thing"] (spF ⟨K, cl⟩ [.val] .val f_is_son) :=
  fn_okG (k := 0) (md := d_is_son) F sc_is_son rfl rfl (fun cdv A outer s0 H E B hB hgu hr => by
    obtain ⟨μ0, F0, H0, rk0⟩ := B
    have hB : rk0 = .val := hB
    subst hB
    have hu1 := room_u (n := 1) hr (by decide)
    have hu64 := room_u (n := 64) hr (by decide)
    have hu70 := room_u (n := 70) hr (by decide)
    have hu151 := room_u (n := 151) hr (by decide)
    have nd := sc_is_son.nd
    exact (ss_cons (ss_retR (sr_of (sk_and (sk_isi "tuple" (sk_var 0) rfl m_isinstance rfl m_tuple) (sk_and (sk_cmp (op_eqP hu64) o2_eq (sk_b1 call_len o1_len rfl m_len (sk_var 0)) sk_int rfl) (sk_one (sk_isi "str" (sk_ix hu1 (sk_var 0) sk_int) rfl m_isinstance rfl m_str))))))
  ss_nil))
end
/-! ### is_shaped -/
abbrev s_is_shaped : Stmt := topS 8
abbrev n_is_shaped : List Str := ["thing", "kinds", "outcomes", "deed", "sons", "son"]
abbrev d_is_shaped : List Md := [.val, .val, .val, .val, .val, .val]
theorem sc_is_shaped : FnScope n_is_shaped ["thing", "kinds"] (defScope s_is_shaped) := ⟨rfl, rfl, rfl, by decide +kernel, rfl, by decide +kernel, by decide +kernel⟩
section
variable {P : Program} {w : World} {K : PySem.W.Frag} {mg : Str → Option Value} {base : Heap} {cl : String → Option Addr}
theorem ok_is_shaped {f : Addr} {fd : FuncData} (F : Fun K "is_shaped" "is_shaped" s_is_shaped f fd) (hsy : HasSys base) (mf : mg "is_shaped" = some (.ref f)) (kp : PySem.W.keepIn K (.ref f) = true) (bd : Binds K fd ["thing", "kinds"] []) (m_all : mg "all" = none) (m_isinstance : mg "isinstance" = none) (m_len : mg "len" = none) (m_tuple : mg "tuple" = none) (g_UNSURE : G_UNSURE K mg) (g_SURE : G_SURE K mg)
    (h_is_son : Has P w K mg base "is_son" 1 ["thing"] (spF ⟨K, cl⟩ [.val] .val f_is_son))
    (h_is_name : Has P w K mg base "is_name" 1 ["thing"] (spF ⟨K, cl⟩ [.val] .val f_is_name))
    (h_is_leaf : Has P w K mg base "is_leaf" 2 ["thing"] (spF ⟨K, cl⟩ [.val] .val f_is_leaf)) : ∀ n : Nat, FnG P w K mg base CX0 (3 + n) f fd ["thing", "kinds"] (spF ⟨K, cl⟩ [.val, .val] .val (f_is_shaped n))
  | 0 => fnG_bad
  | j + 1 => by
    have h_rec : Has P w K mg base "is_shaped" (3 + j) ["thing", "kinds"] (spF ⟨K, cl⟩ [.val, .val] .val (f_is_shaped j)) := ⟨⟨f, fd, ok_is_shaped F hsy mf kp bd m_all m_isinstance m_len m_tuple g_UNSURE g_SURE h_is_son h_is_name h_is_leaf j, mf, kp, bd⟩⟩
    exact fn_okG (k := 3 + j) (md := d_is_shaped) F sc_is_shaped rfl rfl (fun cdv A outer s0 H E B hB hgu hr => by
      obtain ⟨μ0, F0, H0, rk0⟩ := B
      have hB : rk0 = .val := hB
      subst hB
      have hu1 := room_u (n := 1) hr (by decide)
      have hu64 := room_u (n := 64) hr (by decide)
      have hu70 := room_u (n := 70) hr (by decide)
      have hu151 := room_u (n := 151) hr (by decide)
      have nd := sc_is_shaped.nd
      exact (ss_cons (ss_if (st_val (sk_callH h_is_leaf (by omega) hgu hr rfl (sa_cons (sk_var 0) sa_nil))) (ss_cons (ss_retR (sr_of sk_bl))
    ss_nil) ss_nil)
    (ss_cons (ss_if (sw_t (sw_or (st_not (st_val (sk_isi "tuple" (sk_var 0) rfl m_isinstance rfl m_tuple))) (sw_or (st_cmp (op_neP hu64) o2_ne (sk_b1 call_len o1_len rfl m_len (sk_var 0)) sk_int rfl) (sw_or (st_not (st_val (sk_callH h_is_name (by omega) hgu hr rfl (sa_cons (sk_ix hu1 (sk_var 0) sk_int) sa_nil)))) (sw_or1 (st_not (st_val (sk_isi "tuple" (sk_ix hu1 (sk_var 0) sk_int) rfl m_isinstance rfl m_tuple)))))))) (ss_cons (ss_retR (sr_of sk_bl))
    ss_nil) ss_nil)
    (ss_cons (ss_unp (sk_var 0) (sg_tup rfl (sgs_cons (sg_name 3 nd) (sgs_cons (sg_name 4 nd) sgs_nil)) (gl_cons (gl_cons gl_nil))) (by decide))
    (ss_cons (ss_if (st_not (st_val (sk_b1 (cr_all rfl) o1_all rfl m_all (sk_comp (own := [("son", 5)]) rfl nd (show blkC n_is_shaped (defScope s_is_shaped) _ _ = true by decide +kernel) (by decide) (si_seq (sk_bor (sk_var 4))) (fun _ _ _ _ _ => (sg_name 5 nd)) (fun _ _ _ _ _ => pts_none) (fun _ _ _ _ _ => (sk_callH h_is_son (by omega) hgu hr rfl (sa_cons (sk_var 5) sa_nil))))))) (ss_cons (ss_retR (sr_of sk_bl))
    ss_nil) ss_nil)
    (ss_cons (ss_set 2 nd (sk_t1 call_tuple_of o1_tuple rfl m_tuple (sk_comp (own := [("son", 5)]) rfl nd (show blkC n_is_shaped (defScope s_is_shaped) _ _ = true by decide +kernel) (by decide) (si_seq (sk_bor (sk_var 4))) (fun _ _ _ _ _ => (sg_name 5 nd)) (fun _ _ _ _ _ => pts_none) (fun _ _ _ _ _ => (sk_ix hu1 (sk_var 5) sk_int)))))
    (ss_cons (ss_if (sw_t (sw_or (st_cmp (op_notInP hu70) o2_notIn (sk_var 2) (sk_tup (n := 2) (sa_cons (g_SURE cl _ rfl rfl rfl) (sa_cons (g_UNSURE cl _ rfl rfl rfl) sa_nil))) rfl) (sw_or1 (st_cmp (op_neP hu64) o2_ne (sk_dget2 hu1 (by decide) (sk_var 1) (sk_var 3) (sk_var 2)) (sk_var 2) rfl)))) (ss_cons (ss_retR (sr_of sk_bl))
    ss_nil) ss_nil)
    (ss_cons (ss_setRef hu1 (sk_var 2) (sk_var 1) (sk_var 3))
    (ss_cons (ss_retR (sr_of (sk_b1 (cr_all rfl) o1_all rfl m_all (sk_comp (own := [("son", 5)]) rfl nd (show blkC n_is_shaped (defScope s_is_shaped) _ _ = true by decide +kernel) (by decide) (si_seq (sk_bor (sk_var 4))) (fun _ _ _ _ _ => (sg_name 5 nd)) (fun _ _ _ _ _ => pts_none) (fun _ _ _ _ _ => (sk_callH h_rec (by omega) hgu hr rfl (sa_cons (sk_ix hu1 (sk_var 5) sk_int) (sa_cons (sk_var 1) sa_nil))))))))
    ss_nil)))))))))
end
/-! ### is_tree -/
abbrev s_is_tree : Stmt := topS 9
abbrev n_is_tree : List Str := ["thing"]
abbrev d_is_tree : List Md := [.val]
theorem sc_is_tree : FnScope n_is_tree ["thing"] (defScope s_is_tree) := ⟨rfl, rfl, rfl, by decide +kernel, rfl, by decide +kernel, by decide +kernel⟩
section
variable {P : Program} {w : World} {K : PySem.W.Frag} {mg : Str → Option Value} {base : Heap} {cl : String → Option Addr}
theorem ok_is_tree {f : Addr} {fd : FuncData} (F : Fun K "is_tree" "is_tree" s_is_tree f fd) (hsy : HasSys base)
    (h_is_shaped : Has P w K mg base "is_shaped" 43 ["thing", "kinds"] (spF ⟨K, cl⟩ [.val, .val] .val (f_is_shaped 40))) : FnG P w K mg base CX0 44 f fd ["thing"] (spF ⟨K, cl⟩ [.val] .val f_is_tree) :=
  fn_okG (k := 43) (md := d_is_tree) F sc_is_tree rfl rfl (fun cdv A outer s0 H E B hB hgu hr => by
    obtain ⟨μ0, F0, H0, rk0⟩ := B
    have hB : rk0 = .val := hB
    subst hB
    have hu1 := room_u (n := 1) hr (by decide)
    have hu64 := room_u (n := 64) hr (by decide)
    have hu70 := room_u (n := 70) hr (by decide)
    have hu151 := room_u (n := 151) hr (by decide)
    have nd := sc_is_tree.nd
    exact (ss_cons (ss_retR (sr_of (sk_callH h_is_shaped (by omega) hgu hr rfl (sa_cons (sk_var 0) (sa_cons (sk_sto sk_dnew) sa_nil)))))
  ss_nil))
end
/-! ### _law_begun -/
abbrev s__law_begun : Stmt := topS 11
abbrev n__law_begun : List Str := ["_law_script", "_law_wide", "_law_cell"]
abbrev d__law_begun : List Md := [.val, .val, .val]
theorem sc__law_begun : FnScope n__law_begun ["_law_script"] (defScope s__law_begun) := ⟨rfl, rfl, rfl, by decide +kernel, rfl, by decide +kernel, by decide +kernel⟩
section
variable {P : Program} {w : World} {K : PySem.W.Frag} {mg : Str → Option Value} {base : Heap} {cl : String → Option Addr}
theorem ok__law_begun {f : Addr} {fd : FuncData} (F : Fun K "_law_begun" "_law_begun" s__law_begun f fd) (hsy : HasSys base) (m_abs : mg "abs" = none) (m_int : mg "int" = none) : FnG P w K mg base CX0 1 f fd ["_law_script"] (spF ⟨K, cl⟩ [.val] .val f__law_begun) :=
  fn_okG (k := 0) (md := d__law_begun) F sc__law_begun rfl rfl (fun cdv A outer s0 H E B hB hgu hr => by
    obtain ⟨μ0, F0, H0, rk0⟩ := B
    have hB : rk0 = .val := hB
    subst hB
    have hu1 := room_u (n := 1) hr (by decide)
    have hu64 := room_u (n := 64) hr (by decide)
    have hu70 := room_u (n := 70) hr (by decide)
    have hu151 := room_u (n := 151) hr (by decide)
    have nd := sc__law_begun.nd
    exact (ss_cons (ss_setLcSto 1 (own := [("_law_cell", 2)]) rfl nd (show blkC n__law_begun (defScope s__law_begun) _ _ = true by decide +kernel) (by decide) (si_seq (sk_bor (sk_var 0))) (fun _ _ _ _ _ => (sg_name 2 nd)) (fun _ _ _ _ _ => (pts_some (st_cmp op_ge (o2_cmpI (f := geI)) (sk_b1 call_abs o1_abs rfl m_abs (sk_var 2)) (sk_op op_pow o2_pow sk_int sk_int) rfl))) (fun _ _ _ _ _ => (sk_op op_sub o2_sub (sk_b1 call_abs o1_abs rfl m_abs (sk_var 2)) (sk_op op_pow o2_pow sk_int sk_int))))
  (ss_cons (ss_retR (sr_of (sk_sto (sk_disp (sps_cons sk_str (sk_var 1) (sps_cons sk_str (sk_frz (sk_comp (own := [("_law_cell", 2)]) rfl nd (show blkC n__law_begun (defScope s__law_begun) _ _ = true by decide +kernel) (by decide) (si_seq (sk_bor (sk_var 0))) (fun _ _ _ _ _ => (sg_name 2 nd)) (fun _ _ _ _ _ => pts_none) (fun _ _ _ _ _ => (sk_op op_mod o2_mod (sk_t1 call_int1 o1_int rfl m_int (sk_b1 call_abs o1_abs rfl m_abs (sk_var 2))) sk_int)))) (sps_cons sk_str sk_int (sps_cons sk_str sk_int sps_nil))))))))
  ss_nil)))
end
/-! ### _law_mixed -/
abbrev s__law_mixed : Stmt := topS 12
abbrev n__law_mixed : List Str := ["_law_draw", "_law_prime", "_law_turn", "_law_found", "_law_blend", "_law_cell"]
abbrev d__law_mixed : List Md := [.val, .val, .val, .val, .val, .val]
theorem sc__law_mixed : FnScope n__law_mixed ["_law_draw"] (defScope s__law_mixed) := ⟨rfl, rfl, rfl, by decide +kernel, rfl, by decide +kernel, by decide +kernel⟩
section
variable {P : Program} {w : World} {K : PySem.W.Frag} {mg : Str → Option Value} {base : Heap} {cl : String → Option Addr}
theorem ok__law_mixed {f : Addr} {fd : FuncData} (F : Fun K "_law_mixed" "_law_mixed" s__law_mixed f fd) (hsy : HasSys base) (m_int : mg "int" = none) : FnG P w K mg base CX0 1 f fd ["_law_draw"] (spF ⟨K, cl⟩ [.val] .val f__law_mixed) :=
  fn_okG (k := 0) (md := d__law_mixed) F sc__law_mixed rfl rfl (fun cdv A outer s0 H E B hB hgu hr => by
    obtain ⟨μ0, F0, H0, rk0⟩ := B
    have hB : rk0 = .val := hB
    subst hB
    have hu1 := room_u (n := 1) hr (by decide)
    have hu64 := room_u (n := 64) hr (by decide)
    have hu70 := room_u (n := 70) hr (by decide)
    have hu151 := room_u (n := 151) hr (by decide)
    have nd := sc__law_mixed.nd
    exact (ss_cons (ss_par2 2 3 .val .val rfl nd (sa_cons (sk_op op_addA o2_add (sk_ix hu1 (sk_var 0) sk_str) sk_int) (sa_cons sk_int sa_nil)))
  (ss_cons (ss_setRef hu1 (sk_var 2) (sk_var 0) sk_str)
  (ss_cons (ss_for PassesOwn.never rfl (sis_seq (sk_frz (sk_lst (n := 4) (sa_cons sk_int (sa_cons sk_int (sa_cons sk_int (sa_cons sk_int sa_nil))))))) (sg_name 1 nd) (ss_cons (ss_set 4 nd (sk_op op_addA o2_add (sk_op op_mul o2_mul sk_int (sk_var 2)) (sk_op op_fdiv o2_div (sk_var 1) sk_int)))
  (ss_cons (ss_for PassesOwn.never rfl (sis_seq (sk_ix hu1 (sk_var 0) sk_str)) (sg_name 5 nd) (ss_cons (ss_set 4 nd (sk_op op_mod o2_mod (sk_t1 call_int1 o1_int rfl m_int (sk_op op_addA o2_add (sk_op op_addA o2_add (sk_op op_mul o2_mul (sk_var 4) sk_int) (sk_var 5)) (sk_var 2))) (sk_var 1)))
  ss_nil) (by decide))
  (ss_cons (ss_set 3 nd (sk_op op_addA o2_add (sk_op op_mul o2_mul (sk_var 3) sk_int) (sk_op op_mod o2_mod (sk_t1 call_int1 o1_int rfl m_int (sk_op op_pow o2_pow (sk_var 4) sk_int)) (sk_var 1))))
  ss_nil))) (by decide))
  (ss_cons (ss_retR (sr_of (sk_var 3)))
  ss_nil)))))
end
/-! ### _law_take -/
abbrev s__law_take : Stmt := topS 13
abbrev n__law_take : List Str := ["_law_draw", "_law_size", "_law_found"]
abbrev d__law_take : List Md := [.val, .val, .val]
theorem sc__law_take : FnScope n__law_take ["_law_draw", "_law_size"] (defScope s__law_take) := ⟨rfl, rfl, rfl, by decide +kernel, rfl, by decide +kernel, by decide +kernel⟩
section
variable {P : Program} {w : World} {K : PySem.W.Frag} {mg : Str → Option Value} {base : Heap} {cl : String → Option Addr}
theorem ok__law_take {f : Addr} {fd : FuncData} (F : Fun K "_law_take" "_law_take" s__law_take f fd) (hsy : HasSys base) (m_int : mg "int" = none)
    (h__law_mixed : Has P w K mg base "_law_mixed" 1 ["_law_draw"] (spF ⟨K, cl⟩ [.val] .val f__law_mixed)) : FnG P w K mg base CX0 2 f fd ["_law_draw", "_law_size"] (spF ⟨K, cl⟩ [.val, .val] .val f__law_take) :=
  fn_okG (k := 1) (md := d__law_take) F sc__law_take rfl rfl (fun cdv A outer s0 H E B hB hgu hr => by
    obtain ⟨μ0, F0, H0, rk0⟩ := B
    have hB : rk0 = .val := hB
    subst hB
    have hu1 := room_u (n := 1) hr (by decide)
    have hu64 := room_u (n := 64) hr (by decide)
    have hu70 := room_u (n := 70) hr (by decide)
    have hu151 := room_u (n := 151) hr (by decide)
    have nd := sc__law_take.nd
    exact (ss_cons (ss_if (st_cmp (op_eqP hu64) o2_eq (sk_ix hu1 (sk_var 0) sk_str) sk_int rfl) (ss_cons (ss_setRef hu1 (sk_if (st_cmp (op_neP hu64) o2_ne (sk_ix hu1 (sk_var 0) sk_str) (sk_lst (n := 0) sa_nil) rfl) (sk_popRef (sk_ix hu1 (sk_var 0) sk_str) sk_int) (sk_callH h__law_mixed (by omega) hgu hr rfl (sa_cons (sk_var 0) sa_nil))) (sk_var 0) sk_str)
  ss_nil) ss_nil)
  (ss_cons (ss_set 2 nd (sk_op op_mod o2_mod (sk_t1 call_int1 o1_int rfl m_int (sk_ix hu1 (sk_var 0) sk_str)) (sk_var 1)))
  (ss_cons (ss_setRef hu1 (sk_op op_fdiv o2_div (sk_ix hu1 (sk_var 0) sk_str) (sk_var 1)) (sk_var 0) sk_str)
  (ss_cons (ss_retR (sr_of (sk_var 2)))
  ss_nil)))))
end
/-! ### _law_pick -/
abbrev s__law_pick : Stmt := topS 14
abbrev n__law_pick : List Str := ["_law_draw", "_law_some"]
abbrev d__law_pick : List Md := [.val, .val]
theorem sc__law_pick : FnScope n__law_pick ["_law_draw", "_law_some"] (defScope s__law_pick) := ⟨rfl, rfl, rfl, by decide +kernel, rfl, by decide +kernel, by decide +kernel⟩
section
variable {P : Program} {w : World} {K : PySem.W.Frag} {mg : Str → Option Value} {base : Heap} {cl : String → Option Addr}
theorem ok__law_pick {f : Addr} {fd : FuncData} (F : Fun K "_law_pick" "_law_pick" s__law_pick f fd) (hsy : HasSys base) (m_len : mg "len" = none)
    (h__law_take : Has P w K mg base "_law_take" 2 ["_law_draw", "_law_size"] (spF ⟨K, cl⟩ [.val, .val] .val f__law_take)) : FnG P w K mg base CX0 3 f fd ["_law_draw", "_law_some"] (spF ⟨K, cl⟩ [.val, .val] .val f__law_pick) :=
  fn_okG (k := 2) (md := d__law_pick) F sc__law_pick rfl rfl (fun cdv A outer s0 H E B hB hgu hr => by
    obtain ⟨μ0, F0, H0, rk0⟩ := B
    have hB : rk0 = .val := hB
    subst hB
    have hu1 := room_u (n := 1) hr (by decide)
    have hu64 := room_u (n := 64) hr (by decide)
    have hu70 := room_u (n := 70) hr (by decide)
    have hu151 := room_u (n := 151) hr (by decide)
    have nd := sc__law_pick.nd
    exact (ss_cons (ss_retR (sr_of (sk_ix hu1 (sk_var 1) (sk_callH h__law_take (by omega) hgu hr rfl (sa_cons (sk_var 0) (sa_cons (sk_b1 call_len o1_len rfl m_len (sk_var 1)) sa_nil))))))
  ss_nil))
end
/-! ### _law_odd -/
abbrev s__law_odd : Stmt := topS 15
abbrev n__law_odd : List Str := ["_law_draw", "_law_some"]
abbrev d__law_odd : List Md := [.val, .val]
theorem sc__law_odd : FnScope n__law_odd ["_law_draw"] (defScope s__law_odd) := ⟨rfl, rfl, rfl, by decide +kernel, rfl, by decide +kernel, by decide +kernel⟩
section
variable {P : Program} {w : World} {K : PySem.W.Frag} {mg : Str → Option Value} {base : Heap} {cl : String → Option Addr}
theorem ok__law_odd {f : Addr} {fd : FuncData} (F : Fun K "_law_odd" "_law_odd" s__law_odd f fd) (hsy : HasSys base)
    (h__law_pick : Has P w K mg base "_law_pick" 3 ["_law_draw", "_law_some"] (spF ⟨K, cl⟩ [.val, .val] .val f__law_pick)) : FnG P w K mg base CX0 4 f fd ["_law_draw"] (spF ⟨K, cl⟩ [.val] .val f__law_odd) :=
  fn_okG (k := 3) (md := d__law_odd) F sc__law_odd rfl rfl (fun cdv A outer s0 H E B hB hgu hr => by
    obtain ⟨μ0, F0, H0, rk0⟩ := B
    have hB : rk0 = .val := hB
    subst hB
    have hu1 := room_u (n := 1) hr (by decide)
    have hu64 := room_u (n := 64) hr (by decide)
    have hu70 := room_u (n := 70) hr (by decide)
    have hu151 := room_u (n := 151) hr (by decide)
    have nd := sc__law_odd.nd
    exact (ss_cons (ss_set 1 nd (sk_frz (sk_lst (n := 17) (sa_cons sk_non (sa_cons sk_bl (sa_cons sk_bl (sa_cons sk_int (sa_cons sk_int (sa_cons (sk_neg sk_int) (sa_cons (sk_op op_pow o2_pow sk_int sk_int) (sa_cons sk_str (sa_cons sk_str (sa_cons sk_str (sa_cons sk_str (sa_cons (sk_tup (n := 0) sa_nil) (sa_cons (sk_tup (n := 1) (sa_cons sk_str sa_nil)) (sa_cons (sk_tup (n := 1) (sa_cons sk_str sa_nil)) (sa_cons (sk_frz (sk_lst (n := 0) sa_nil)) (sa_cons (sk_frz sk_dnew) (sa_cons (sk_tup (n := 1) (sa_cons (sk_tup (n := 0) sa_nil) sa_nil)) sa_nil))))))))))))))))))))
  (ss_cons (ss_retR (sr_of (sk_callH h__law_pick (by omega) hgu hr rfl (sa_cons (sk_var 0) (sa_cons (sk_frz (sk_op op_cat o2_cat (sk_var 1) (sk_lst (n := 6) (sa_cons (sk_tup (n := 2) (sa_cons sk_str (sa_cons sk_str sa_nil))) (sa_cons (sk_tup (n := 2) (sa_cons sk_str (sa_cons (sk_tup (n := 1) (sa_cons sk_str sa_nil)) sa_nil))) (sa_cons (sk_frz (sk_lst (n := 1) (sa_cons sk_str sa_nil))) (sa_cons (sk_frz (sk_disp (sps_cons sk_str sk_int sps_nil))) (sa_cons (sk_tup (n := 2) (sa_cons sk_str (sa_cons sk_bl sa_nil))) (sa_cons (sk_tup (n := 2) (sa_cons (sk_tup (n := 0) sa_nil) (sa_cons (sk_tup (n := 0) sa_nil) sa_nil))) sa_nil))))))))) sa_nil)))))
  ss_nil)))
end
/-! ### _law_labels -/
abbrev s__law_labels : Stmt := topS 16
abbrev n__law_labels : List Str := ["_law_draw", "_law_many", "_law_some", "_law_found", "_law_turn", "_law_one"]
abbrev d__law_labels : List Md := [.val, .val, .val, .own, .val, .val]
theorem sc__law_labels : FnScope n__law_labels ["_law_draw", "_law_many"] (defScope s__law_labels) := ⟨rfl, rfl, rfl, by decide +kernel, rfl, by decide +kernel, by decide +kernel⟩
section
variable {P : Program} {w : World} {K : PySem.W.Frag} {mg : Str → Option Value} {base : Heap} {cl : String → Option Addr}
theorem ok__law_labels {f : Addr} {fd : FuncData} (F : Fun K "_law_labels" "_law_labels" s__law_labels f fd) (hsy : HasSys base) (m_range : mg "range" = none)
    (h__law_pick : Has P w K mg base "_law_pick" 3 ["_law_draw", "_law_some"] (spF ⟨K, cl⟩ [.val, .val] .val f__law_pick)) : FnG P w K mg base CX0 4 f fd ["_law_draw", "_law_many"] (spF ⟨K, cl⟩ [.val, .val] .val f__law_labels) :=
  fn_okG (k := 3) (md := d__law_labels) F sc__law_labels rfl rfl (fun cdv A outer s0 H E B hB hgu hr => by
    obtain ⟨μ0, F0, H0, rk0⟩ := B
    have hB : rk0 = .val := hB
    subst hB
    have hu1 := room_u (n := 1) hr (by decide)
    have hu64 := room_u (n := 64) hr (by decide)
    have hu70 := room_u (n := 70) hr (by decide)
    have hu151 := room_u (n := 151) hr (by decide)
    have nd := sc__law_labels.nd
    exact (ss_cons (ss_set 2 nd (sk_frz (sk_lst (n := 14) (sa_cons sk_str (sa_cons sk_str (sa_cons sk_str (sa_cons sk_str (sa_cons sk_str (sa_cons sk_str (sa_cons sk_str (sa_cons sk_str (sa_cons sk_str (sa_cons sk_str (sa_cons sk_str (sa_cons sk_str (sa_cons sk_str (sa_cons sk_str sa_nil)))))))))))))))))
  (ss_cons (ss_setOwn 3 nd (sk_lst (n := 0) sa_nil))
  (ss_cons (ss_for PassesOwn.never rfl (sis_range1 rfl m_range (sk_var 1)) (sg_name 4 nd) (ss_cons (ss_append 3 (sk_callH h__law_pick (by omega) hgu hr rfl (sa_cons (sk_var 0) (sa_cons (sk_frz (sk_comp (own := [("_law_one", 5)]) rfl nd (show blkC n__law_labels (defScope s__law_labels) _ _ = true by decide +kernel) (by decide) (si_seq (sk_bor (sk_var 2))) (fun _ _ _ _ _ => (sg_name 5 nd)) (fun _ _ _ _ _ => (pts_some (st_cmp (op_notInP hu70) o2_notIn (sk_var 5) (sk_own 3) rfl))) (fun _ _ _ _ _ => (sk_var 5)))) sa_nil))))
  ss_nil) (by decide))
  (ss_cons (ss_retR (sr_own 3 (show Kd.val ≠ .bor by decide)))
  ss_nil)))))
end
/-! ### _law_kinds -/
abbrev s__law_kinds : Stmt := topS 17
abbrev n__law_kinds : List Str := ["_law_draw", "_law_most", "_law_wide", "_law_found", "_law_name"]
abbrev d__law_kinds : List Md := [.val, .val, .val, .own, .val]
theorem sc__law_kinds : FnScope n__law_kinds ["_law_draw", "_law_most", "_law_wide"] (defScope s__law_kinds) := ⟨rfl, rfl, rfl, by decide +kernel, rfl, by decide +kernel, by decide +kernel⟩
section
variable {P : Program} {w : World} {K : PySem.W.Frag} {mg : Str → Option Value} {base : Heap} {cl : String → Option Addr}
theorem ok__law_kinds {f : Addr} {fd : FuncData} (F : Fun K "_law_kinds" "_law_kinds" s__law_kinds f fd) (hsy : HasSys base) (m_sorted : mg "sorted" = none)
    (h__law_take : Has P w K mg base "_law_take" 2 ["_law_draw", "_law_size"] (spF ⟨K, cl⟩ [.val, .val] .val f__law_take))
    (h__law_labels : Has P w K mg base "_law_labels" 4 ["_law_draw", "_law_many"] (spF ⟨K, cl⟩ [.val, .val] .val f__law_labels)) : FnG P w K mg base CX0 5 f fd ["_law_draw", "_law_most", "_law_wide"] (spF ⟨K, cl⟩ [.val, .val, .val] .val f__law_kinds) :=
  fn_okG (k := 4) (md := d__law_kinds) F sc__law_kinds rfl rfl (fun cdv A outer s0 H E B hB hgu hr => by
    obtain ⟨μ0, F0, H0, rk0⟩ := B
    have hB : rk0 = .val := hB
    subst hB
    have hu1 := room_u (n := 1) hr (by decide)
    have hu64 := room_u (n := 64) hr (by decide)
    have hu70 := room_u (n := 70) hr (by decide)
    have hu151 := room_u (n := 151) hr (by decide)
    have nd := sc__law_kinds.nd
    exact (ss_cons (ss_setOwn 3 nd sk_dnew)
  (ss_cons (ss_for PassesOwn.never rfl (sis_seq (sk_frz (sk_b1 (cr_sortA rfl) o1_sorted rfl m_sorted (sk_callH h__law_labels (by omega) hgu hr rfl (sa_cons (sk_var 0) (sa_cons (sk_op op_addA o2_add sk_int (sk_callH h__law_take (by omega) hgu hr rfl (sa_cons (sk_var 0) (sa_cons (sk_op op_sub o2_sub (sk_var 1) sk_int) sa_nil)))) sa_nil)))))) (sg_name 4 nd) (ss_cons (ss_setIt 3 hu1 (sk_frz (sk_if (sw_t (sw_and (st_val (sk_var 2)) (sw_and1 (st_cmp (op_eqP hu64) o2_eq (sk_callH h__law_take (by omega) hgu hr rfl (sa_cons (sk_var 0) (sa_cons sk_int sa_nil))) sk_int rfl)))) (sk_lst (n := 3) (sa_cons sk_str (sa_cons sk_str (sa_cons sk_str sa_nil)))) (sk_lst (n := 2) (sa_cons sk_str (sa_cons sk_str sa_nil))))) (sk_var 4))
  ss_nil) (by decide))
  (ss_cons (ss_retR (sr_own 3 (show Kd.val ≠ .bor by decide)))
  ss_nil))))
end
/-! ### _law_leaf -/
abbrev s__law_leaf : Stmt := topS 18
abbrev n__law_leaf : List Str := ["_law_draw", "_law_kinds_here"]
abbrev d__law_leaf : List Md := [.val, .val]
theorem sc__law_leaf : FnScope n__law_leaf ["_law_draw", "_law_kinds_here"] (defScope s__law_leaf) := ⟨rfl, rfl, rfl, by decide +kernel, rfl, by decide +kernel, by decide +kernel⟩
section
variable {P : Program} {w : World} {K : PySem.W.Frag} {mg : Str → Option Value} {base : Heap} {cl : String → Option Addr}
theorem ok__law_leaf {f : Addr} {fd : FuncData} (F : Fun K "_law_leaf" "_law_leaf" s__law_leaf f fd) (hsy : HasSys base) (m_sorted : mg "sorted" = none)
    (h__law_pick : Has P w K mg base "_law_pick" 3 ["_law_draw", "_law_some"] (spF ⟨K, cl⟩ [.val, .val] .val f__law_pick)) : FnG P w K mg base CX0 4 f fd ["_law_draw", "_law_kinds_here"] (spF ⟨K, cl⟩ [.val, .val] .val f__law_leaf) :=
  fn_okG (k := 3) (md := d__law_leaf) F sc__law_leaf rfl rfl (fun cdv A outer s0 H E B hB hgu hr => by
    obtain ⟨μ0, F0, H0, rk0⟩ := B
    have hB : rk0 = .val := hB
    subst hB
    have hu1 := room_u (n := 1) hr (by decide)
    have hu64 := room_u (n := 64) hr (by decide)
    have hu70 := room_u (n := 70) hr (by decide)
    have hu151 := room_u (n := 151) hr (by decide)
    have nd := sc__law_leaf.nd
    exact (ss_cons (ss_retR (sr_of (sk_callH h__law_pick (by omega) hgu hr rfl (sa_cons (sk_var 0) (sa_cons (sk_frz (sk_lst (n := 5) (sa_cons (sk_tup (n := 2) (sa_cons sk_str (sa_cons sk_bl sa_nil))) (sa_cons (sk_tup (n := 2) (sa_cons sk_str (sa_cons sk_bl sa_nil))) (sa_cons (sk_tup (n := 2) (sa_cons sk_str (sa_cons sk_bl sa_nil))) (sa_cons (sk_tup (n := 1) (sa_cons sk_str sa_nil)) (sa_cons (sk_tup (n := 2) (sa_cons sk_str (sa_cons (sk_ix hu1 (sk_b1 (cr_sortA rfl) o1_sorted rfl m_sorted (sk_var 1)) sk_int) sa_nil))) sa_nil))))))) sa_nil)))))
  ss_nil))
end
/-! ### _law_tree -/
abbrev s__law_tree : Stmt := topS 19
abbrev n__law_tree : List Str := ["_law_draw", "_law_kinds_here", "_law_deep", "_law_deed", "_law_outcome", "_law_some", "_law_is_even", "_law_below", "_law_sons", "_law_later"]
abbrev d__law_tree : List Md := [.val, .val, .val, .val, .val, .val, .val, .val, .own, .val]
theorem sc__law_tree : FnScope n__law_tree ["_law_draw", "_law_kinds_here", "_law_deep", "_law_deed"] (defScope s__law_tree) := ⟨rfl, rfl, rfl, by decide +kernel, rfl, by decide +kernel, by decide +kernel⟩
section
variable {P : Program} {w : World} {K : PySem.W.Frag} {mg : Str → Option Value} {base : Heap} {cl : String → Option Addr}
theorem ok__law_tree {f : Addr} {fd : FuncData} (F : Fun K "_law_tree" "_law_tree" s__law_tree f fd) (hsy : HasSys base) (mf : mg "_law_tree" = some (.ref f)) (kp : PySem.W.keepIn K (.ref f) = true) (bd : Binds K fd ["_law_draw", "_law_kinds_here", "_law_deep", "_law_deed"] []) (m_sorted : mg "sorted" = none) (m_tuple : mg "tuple" = none)
    (h__law_pick : Has P w K mg base "_law_pick" 3 ["_law_draw", "_law_some"] (spF ⟨K, cl⟩ [.val, .val] .val f__law_pick))
    (h__law_take : Has P w K mg base "_law_take" 2 ["_law_draw", "_law_size"] (spF ⟨K, cl⟩ [.val, .val] .val f__law_take))
    (h__law_leaf : Has P w K mg base "_law_leaf" 4 ["_law_draw", "_law_kinds_here"] (spF ⟨K, cl⟩ [.val, .val] .val f__law_leaf)) : ∀ n : Nat, FnG P w K mg base CX0 (5 + n) f fd ["_law_draw", "_law_kinds_here", "_law_deep", "_law_deed"] (spF ⟨K, cl⟩ [.val, .val, .val, .val] .val (f__law_tree n))
  | 0 => fnG_bad
  | j + 1 => by
    have h_rec : Has P w K mg base "_law_tree" (5 + j) ["_law_draw", "_law_kinds_here", "_law_deep", "_law_deed"] (spF ⟨K, cl⟩ [.val, .val, .val, .val] .val (f__law_tree j)) := ⟨⟨f, fd, ok__law_tree F hsy mf kp bd m_sorted m_tuple h__law_pick h__law_take h__law_leaf j, mf, kp, bd⟩⟩
    exact fn_okG (k := 5 + j) (md := d__law_tree) F sc__law_tree rfl rfl (fun cdv A outer s0 H E B hB hgu hr => by
      obtain ⟨μ0, F0, H0, rk0⟩ := B
      have hB : rk0 = .val := hB
      subst hB
      have hu1 := room_u (n := 1) hr (by decide)
      have hu64 := room_u (n := 64) hr (by decide)
      have hu70 := room_u (n := 70) hr (by decide)
      have hu151 := room_u (n := 151) hr (by decide)
      have nd := sc__law_tree.nd
      exact (ss_cons (ss_if (sw_t (sw_or (st_cmp op_isN o2_isN (sk_var 3) sk_non rfl) (sw_or1 (st_cmp (op_eqP hu64) o2_eq (sk_var 2) sk_int rfl)))) (ss_cons (ss_retR (sr_of (sk_callH h__law_leaf (by omega) hgu hr rfl (sa_cons (sk_var 0) (sa_cons (sk_var 1) sa_nil)))))
    ss_nil) ss_nil)
    (ss_cons (ss_par2 5 6 .val .val rfl nd (sa_cons (sk_frz (sk_b1 (cr_sortA rfl) o1_sorted rfl m_sorted (sk_var 1))) (sa_cons (sk_cmp op_gt (o2_cmpI (f := gtI)) (sk_callH h__law_take (by omega) hgu hr rfl (sa_cons (sk_var 0) (sa_cons sk_int sa_nil))) sk_int rfl) sa_nil)))
    (ss_cons (ss_par2 7 8 .val .own rfl nd (sa_cons (sk_callH h__law_pick (by omega) hgu hr rfl (sa_cons (sk_var 0) (sa_cons (sk_frz (sk_op op_cat o2_cat (sk_op op_rep o2_rep (sk_var 5) sk_int) (sk_lst (n := 1) (sa_cons sk_non sa_nil)))) sa_nil))) (sa_cons (sk_lst (n := 0) sa_nil) sa_nil)))
    (ss_cons (ss_for PassesOwn.never rfl (sis_seq (sk_ix hu1 (sk_var 1) (sk_var 3))) (sg_name 4 nd) (ss_cons (ss_set 9 nd (sk_if (st_val (sk_var 6)) (sk_var 7) (sk_callH h__law_pick (by omega) hgu hr rfl (sa_cons (sk_var 0) (sa_cons (sk_frz (sk_op op_cat o2_cat (sk_var 5) (sk_lst (n := 1) (sa_cons sk_non sa_nil)))) sa_nil)))))
    (ss_cons (ss_append 8 (sk_tup (n := 2) (sa_cons (sk_var 4) (sa_cons (sk_callH h_rec (by omega) hgu hr rfl (sa_cons (sk_var 0) (sa_cons (sk_var 1) (sa_cons (sk_op op_sub o2_sub (sk_var 2) sk_int) (sa_cons (sk_var 9) sa_nil))))) sa_nil))))
    ss_nil)) (by decide))
    (ss_cons (ss_retR (sr_of (sk_tup (n := 2) (sa_cons (sk_var 3) (sa_cons (sk_t1 call_tuple_of o1_tuple rfl m_tuple (sk_own 8)) sa_nil)))))
    ss_nil))))))
end
/-! ### _law_drawn_tree -/
abbrev s__law_drawn_tree : Stmt := topS 20
abbrev n__law_drawn_tree : List Str := ["_law_draw", "_law_kinds_here", "_law_deep"]
abbrev d__law_drawn_tree : List Md := [.val, .val, .val]
theorem sc__law_drawn_tree : FnScope n__law_drawn_tree ["_law_draw", "_law_kinds_here", "_law_deep"] (defScope s__law_drawn_tree) := ⟨rfl, rfl, rfl, by decide +kernel, rfl, by decide +kernel, by decide +kernel⟩
section
variable {P : Program} {w : World} {K : PySem.W.Frag} {mg : Str → Option Value} {base : Heap} {cl : String → Option Addr}
theorem ok__law_drawn_tree {f : Addr} {fd : FuncData} (F : Fun K "_law_drawn_tree" "_law_drawn_tree" s__law_drawn_tree f fd) (hsy : HasSys base) (m_sorted : mg "sorted" = none)
    (h__law_pick : Has P w K mg base "_law_pick" 3 ["_law_draw", "_law_some"] (spF ⟨K, cl⟩ [.val, .val] .val f__law_pick))
    (h__law_tree : Has P w K mg base "_law_tree" 10 ["_law_draw", "_law_kinds_here", "_law_deep", "_law_deed"] (spF ⟨K, cl⟩ [.val, .val, .val, .val] .val (f__law_tree 5))) : FnG P w K mg base CX0 11 f fd ["_law_draw", "_law_kinds_here", "_law_deep"] (spF ⟨K, cl⟩ [.val, .val, .val] .val f__law_drawn_tree) :=
  fn_okG (k := 10) (md := d__law_drawn_tree) F sc__law_drawn_tree rfl rfl (fun cdv A outer s0 H E B hB hgu hr => by
    obtain ⟨μ0, F0, H0, rk0⟩ := B
    have hB : rk0 = .val := hB
    subst hB
    have hu1 := room_u (n := 1) hr (by decide)
    have hu64 := room_u (n := 64) hr (by decide)
    have hu70 := room_u (n := 70) hr (by decide)
    have hu151 := room_u (n := 151) hr (by decide)
    have nd := sc__law_drawn_tree.nd
    exact (ss_cons (ss_retR (sr_of (sk_callH h__law_tree (by omega) hgu hr rfl (sa_cons (sk_var 0) (sa_cons (sk_var 1) (sa_cons (sk_var 2) (sa_cons (sk_callH h__law_pick (by omega) hgu hr rfl (sa_cons (sk_var 0) (sa_cons (sk_frz (sk_op op_cat o2_cat (sk_op op_rep o2_rep (sk_b1 (cr_sortA rfl) o1_sorted rfl m_sorted (sk_var 1)) sk_int) (sk_lst (n := 1) (sa_cons sk_non sa_nil)))) sa_nil))) sa_nil)))))))
  ss_nil))
end
/-! ### _law_is_name -/
abbrev s__law_is_name : Stmt := topS 21
abbrev n__law_is_name : List Str := ["_law_item", "_law_sign"]
abbrev d__law_is_name : List Md := [.val, .val]
theorem sc__law_is_name : FnScope n__law_is_name ["_law_item"] (defScope s__law_is_name) := ⟨rfl, rfl, rfl, by decide +kernel, rfl, by decide +kernel, by decide +kernel⟩
section
variable {P : Program} {w : World} {K : PySem.W.Frag} {mg : Str → Option Value} {base : Heap} {cl : String → Option Addr}
theorem ok__law_is_name {f : Addr} {fd : FuncData} (F : Fun K "_law_is_name" "_law_is_name" s__law_is_name f fd) (hsy : HasSys base) (m_isinstance : mg "isinstance" = none) (m_len : mg "len" = none) (m_str : mg "str" = none) : FnG P w K mg base CX0 1 f fd ["_law_item"] (spF ⟨K, cl⟩ [.val] .val f__law_is_name) :=
  fn_okG (k := 0) (md := d__law_is_name) F sc__law_is_name rfl rfl (fun cdv A outer s0 H E B hB hgu hr => by
    obtain ⟨μ0, F0, H0, rk0⟩ := B
    have hB : rk0 = .val := hB
    subst hB
    have hu1 := room_u (n := 1) hr (by decide)
    have hu64 := room_u (n := 64) hr (by decide)
    have hu70 := room_u (n := 70) hr (by decide)
    have hu151 := room_u (n := 151) hr (by decide)
    have nd := sc__law_is_name.nd
    exact (ss_cons (ss_if (sw_t (sw_or (st_not (st_val (sk_isi "str" (sk_var 0) rfl m_isinstance rfl m_str))) (sw_or1 (st_not (st_chain op_le op_le (o2_cmpI (f := leI)) (o2_cmpI (f := leI)) sk_int (sk_b1 call_len o1_len rfl m_len (sk_var 0)) sk_int))))) (ss_cons (ss_retR (sr_of sk_bl))
  ss_nil) ss_nil)
  (ss_cons (ss_retR (sr_of (sk_cmp (op_eqL hu64) o2_eqL (sk_comp (own := [("_law_sign", 1)]) rfl nd (show blkC n__law_is_name (defScope s__law_is_name) _ _ = true by decide +kernel) (by decide) (si_str (sk_var 0)) (fun _ _ _ _ _ => (sg_name 1 nd)) (fun _ _ _ _ _ => (pts_some (st_cmp (op_notInP hu70) o2_notIn (sk_var 1) sk_str rfl))) (fun _ _ _ _ _ => (sk_var 1))) (sk_lst (n := 0) sa_nil) rfl)))
  ss_nil)))
end
/-! ### _law_is_end_of_tree -/
abbrev s__law_is_end_of_tree : Stmt := topS 22
abbrev n__law_is_end_of_tree : List Str := ["_law_item"]
abbrev d__law_is_end_of_tree : List Md := [.val]
theorem sc__law_is_end_of_tree : FnScope n__law_is_end_of_tree ["_law_item"] (defScope s__law_is_end_of_tree) := ⟨rfl, rfl, rfl, by decide +kernel, rfl, by decide +kernel, by decide +kernel⟩
section
variable {P : Program} {w : World} {K : PySem.W.Frag} {mg : Str → Option Value} {base : Heap} {cl : String → Option Addr}
theorem ok__law_is_end_of_tree {f : Addr} {fd : FuncData} (F : Fun K "_law_is_end_of_tree" "_law_is_end_of_tree" s__law_is_end_of_tree f fd) (hsy : HasSys base) (m_bool : mg "bool" = none) (m_isinstance : mg "isinstance" = none) (m_len : mg "len" = none) (m_str : mg "str" = none) (m_tuple : mg "tuple" = none)
    (h__law_is_name : Has P w K mg base "_law_is_name" 1 ["_law_item"] (spF ⟨K, cl⟩ [.val] .val f__law_is_name)) : FnG P w K mg base CX0 2 f fd ["_law_item"] (spF ⟨K, cl⟩ [.val] .val f__law_is_end_of_tree) :=
  fn_okG (k := 1) (md := d__law_is_end_of_tree) F sc__law_is_end_of_tree rfl rfl (fun cdv A outer s0 H E B hB hgu hr => by
    obtain ⟨μ0, F0, H0, rk0⟩ := B
    have hB : rk0 = .val := hB
    subst hB
    have hu1 := room_u (n := 1) hr (by decide)
    have hu64 := room_u (n := 64) hr (by decide)
    have hu70 := room_u (n := 70) hr (by decide)
    have hu151 := room_u (n := 151) hr (by decide)
    have nd := sc__law_is_end_of_tree.nd
    exact (ss_cons (ss_if (sw_t (sw_or (st_not (st_val (sk_isi "tuple" (sk_var 0) rfl m_isinstance rfl m_tuple))) (sw_or (st_cmp (op_eqP hu64) o2_eq (sk_b1 call_len o1_len rfl m_len (sk_var 0)) sk_int rfl) (sw_or1 (st_not (st_val (sk_isi "str" (sk_ix hu1 (sk_var 0) sk_int) rfl m_isinstance rfl m_str))))))) (ss_cons (ss_retR (sr_of sk_bl))
  ss_nil) ss_nil)
  (ss_cons (ss_if (st_cmp (op_eqP hu64) o2_eq (sk_b1 call_len o1_len rfl m_len (sk_var 0)) sk_int rfl) (ss_cons (ss_retR (sr_of (sk_cmp (op_eqP hu64) o2_eq (sk_ix hu1 (sk_var 0) sk_int) sk_str rfl)))
  ss_nil) ss_nil)
  (ss_cons (ss_if (st_cmp (op_neP hu64) o2_ne (sk_b1 call_len o1_len rfl m_len (sk_var 0)) sk_int rfl) (ss_cons (ss_retR (sr_of sk_bl))
  ss_nil) ss_nil)
  (ss_cons (ss_retR (sr_of (sk_or (sk_and (sk_cmp (op_eqP hu64) o2_eq (sk_ix hu1 (sk_var 0) sk_int) sk_str rfl) (sk_one (sk_isi "bool" (sk_ix hu1 (sk_var 0) sk_int) rfl m_isinstance rfl m_bool))) (sk_one (sk_and (sk_cmp (op_eqP hu64) o2_eq (sk_ix hu1 (sk_var 0) sk_int) sk_str rfl) (sk_one (sk_callH h__law_is_name (by omega) hgu hr rfl (sa_cons (sk_ix hu1 (sk_var 0) sk_int) sa_nil))))))))
  ss_nil)))))
end
/-! ### _law_is_shape -/
abbrev s__law_is_shape : Stmt := topS 23
abbrev n__law_is_shape : List Str := ["_law_item", "_law_met", "_law_words", "_law_son"]
abbrev d__law_is_shape : List Md := [.val, .val, .own, .val]
theorem sc__law_is_shape : FnScope n__law_is_shape ["_law_item", "_law_met"] (defScope s__law_is_shape) := ⟨rfl, rfl, rfl, by decide +kernel, rfl, by decide +kernel, by decide +kernel⟩
section
variable {P : Program} {w : World} {K : PySem.W.Frag} {mg : Str → Option Value} {base : Heap} {cl : String → Option Addr}
theorem ok__law_is_shape {f : Addr} {fd : FuncData} (F : Fun K "_law_is_shape" "_law_is_shape" s__law_is_shape f fd) (hsy : HasSys base) (mf : mg "_law_is_shape" = some (.ref f)) (kp : PySem.W.keepIn K (.ref f) = true) (bd : Binds K fd ["_law_item", "_law_met"] []) (m_isinstance : mg "isinstance" = none) (m_len : mg "len" = none) (m_str : mg "str" = none) (m_tuple : mg "tuple" = none)
    (h__law_is_name : Has P w K mg base "_law_is_name" 1 ["_law_item"] (spF ⟨K, cl⟩ [.val] .val f__law_is_name))
    (h__law_is_end_of_tree : Has P w K mg base "_law_is_end_of_tree" 2 ["_law_item"] (spF ⟨K, cl⟩ [.val] .val f__law_is_end_of_tree)) : ∀ n : Nat, FnG P w K mg base CX0 (3 + n) f fd ["_law_item", "_law_met"] (spF ⟨K, cl⟩ [.val, .val] .val (f__law_is_shape n))
  | 0 => fnG_bad
  | j + 1 => by
    have h_rec : Has P w K mg base "_law_is_shape" (3 + j) ["_law_item", "_law_met"] (spF ⟨K, cl⟩ [.val, .val] .val (f__law_is_shape j)) := ⟨⟨f, fd, ok__law_is_shape F hsy mf kp bd m_isinstance m_len m_str m_tuple h__law_is_name h__law_is_end_of_tree j, mf, kp, bd⟩⟩
    exact fn_okG (k := 3 + j) (md := d__law_is_shape) F sc__law_is_shape rfl rfl (fun cdv A outer s0 H E B hB hgu hr => by
      obtain ⟨μ0, F0, H0, rk0⟩ := B
      have hB : rk0 = .val := hB
      subst hB
      have hu1 := room_u (n := 1) hr (by decide)
      have hu64 := room_u (n := 64) hr (by decide)
      have hu70 := room_u (n := 70) hr (by decide)
      have hu151 := room_u (n := 151) hr (by decide)
      have nd := sc__law_is_shape.nd
      exact (ss_cons (ss_if (st_val (sk_callH h__law_is_end_of_tree (by omega) hgu hr rfl (sa_cons (sk_var 0) sa_nil))) (ss_cons (ss_retR (sr_of sk_bl))
    ss_nil) ss_nil)
    (ss_cons (ss_if (sw_t (sw_or (st_not (st_val (sk_isi "tuple" (sk_var 0) rfl m_isinstance rfl m_tuple))) (sw_or (st_cmp (op_neP hu64) o2_ne (sk_b1 call_len o1_len rfl m_len (sk_var 0)) sk_int rfl) (sw_or (st_not (st_val (sk_callH h__law_is_name (by omega) hgu hr rfl (sa_cons (sk_ix hu1 (sk_var 0) sk_int) sa_nil)))) (sw_or1 (st_not (st_val (sk_isi "tuple" (sk_ix hu1 (sk_var 0) sk_int) rfl m_isinstance rfl m_tuple)))))))) (ss_cons (ss_retR (sr_of sk_bl))
    ss_nil) ss_nil)
    (ss_cons (ss_setOwn 2 nd (sk_lst (n := 0) sa_nil))
    (ss_cons (ss_for PassesOwn.never rfl (sis_seq (sk_ix hu1 (sk_var 0) sk_int)) (sg_name 3 nd) (ss_cons (ss_if (sw_t (sw_or (st_not (st_val (sk_isi "tuple" (sk_var 3) rfl m_isinstance rfl m_tuple))) (sw_or (st_cmp (op_neP hu64) o2_ne (sk_b1 call_len o1_len rfl m_len (sk_var 3)) sk_int rfl) (sw_or1 (st_not (st_val (sk_isi "str" (sk_ix hu1 (sk_var 3) sk_int) rfl m_isinstance rfl m_str))))))) (ss_cons (ss_retR (sr_of sk_bl))
    ss_nil) ss_nil)
    (ss_cons (ss_append 2 (sk_ix hu1 (sk_var 3) sk_int))
    ss_nil)) (by decide))
    (ss_cons (ss_if (sw_t (sw_or (st_cmp (op_notInP hu70) o2_notIn (sk_own 2) (sk_tup (n := 2) (sa_cons (sk_frz (sk_lst (n := 2) (sa_cons sk_str (sa_cons sk_str sa_nil)))) (sa_cons (sk_frz (sk_lst (n := 3) (sa_cons sk_str (sa_cons sk_str (sa_cons sk_str sa_nil))))) sa_nil))) rfl) (sw_or1 (st_cmp (op_neP hu64) o2_ne (sk_dget2 hu1 (by decide) (sk_var 1) (sk_ix hu1 (sk_var 0) sk_int) (sk_own 2)) (sk_own 2) rfl)))) (ss_cons (ss_retR (sr_of sk_bl))
    ss_nil) ss_nil)
    (ss_cons (ss_setRefMv 2 hu1 (sk_var 1) (sk_ix hu1 (sk_var 0) sk_int))
    (ss_cons (ss_retR (sr_of (sk_cmp (op_eqL hu64) o2_eqL (sk_comp (own := [("_law_son", 3)]) rfl nd (show blkC n__law_is_shape (defScope s__law_is_shape) _ _ = true by decide +kernel) (by decide) (si_seq (sk_bor (sk_ix hu1 (sk_var 0) sk_int))) (fun _ _ _ _ _ => (sg_name 3 nd)) (fun _ _ _ _ _ => (pts_some (st_not (st_val (sk_callH h_rec (by omega) hgu hr rfl (sa_cons (sk_ix hu1 (sk_var 3) sk_int) (sa_cons (sk_var 1) sa_nil))))))) (fun _ _ _ _ _ => (sk_var 3))) (sk_lst (n := 0) sa_nil) rfl)))
    ss_nil))))))))
end
/-! ### _law_bent -/
abbrev s__law_bent : Stmt := topS 24
abbrev n__law_bent : List Str := ["_law_draw", "_law_item", "_law_kinds_here", "_law_deep", "_law_some", "_law_at", "_law_way", "_law_items"]
abbrev d__law_bent : List Md := [.val, .val, .val, .val, .val, .val, .val, .own]
theorem sc__law_bent : FnScope n__law_bent ["_law_draw", "_law_item", "_law_kinds_here", "_law_deep"] (defScope s__law_bent) := ⟨rfl, rfl, rfl, by decide +kernel, rfl, by decide +kernel, by decide +kernel⟩
section
variable {P : Program} {w : World} {K : PySem.W.Frag} {mg : Str → Option Value} {base : Heap} {cl : String → Option Addr}
theorem ok__law_bent {f : Addr} {fd : FuncData} (F : Fun K "_law_bent" "_law_bent" s__law_bent f fd) (hsy : HasSys base) (mf : mg "_law_bent" = some (.ref f)) (kp : PySem.W.keepIn K (.ref f) = true) (bd : Binds K fd ["_law_draw", "_law_item", "_law_kinds_here", "_law_deep"] []) (m_isinstance : mg "isinstance" = none) (m_len : mg "len" = none) (m_list : mg "list" = none) (m_sorted : mg "sorted" = none) (m_tuple : mg "tuple" = none)
    (h__law_take : Has P w K mg base "_law_take" 2 ["_law_draw", "_law_size"] (spF ⟨K, cl⟩ [.val, .val] .val f__law_take))
    (h__law_pick : Has P w K mg base "_law_pick" 3 ["_law_draw", "_law_some"] (spF ⟨K, cl⟩ [.val, .val] .val f__law_pick))
    (h__law_odd : Has P w K mg base "_law_odd" 4 ["_law_draw"] (spF ⟨K, cl⟩ [.val] .val f__law_odd)) : ∀ n : Nat, FnG P w K mg base CX0 (5 + n) f fd ["_law_draw", "_law_item", "_law_kinds_here", "_law_deep"] (spF ⟨K, cl⟩ [.val, .val, .val, .val] .val (f__law_bent n))
  | 0 => fnG_bad
  | j + 1 => by
    have h_rec : Has P w K mg base "_law_bent" (5 + j) ["_law_draw", "_law_item", "_law_kinds_here", "_law_deep"] (spF ⟨K, cl⟩ [.val, .val, .val, .val] .val (f__law_bent j)) := ⟨⟨f, fd, ok__law_bent F hsy mf kp bd m_isinstance m_len m_list m_sorted m_tuple h__law_take h__law_pick h__law_odd j, mf, kp, bd⟩⟩
    exact fn_okG (k := 5 + j) (md := d__law_bent) F sc__law_bent rfl rfl (fun cdv A outer s0 H E B hB hgu hr => by
      obtain ⟨μ0, F0, H0, rk0⟩ := B
      have hB : rk0 = .val := hB
      subst hB
      have hu1 := room_u (n := 1) hr (by decide)
      have hu64 := room_u (n := 64) hr (by decide)
      have hu70 := room_u (n := 70) hr (by decide)
      have hu151 := room_u (n := 151) hr (by decide)
      have nd := sc__law_bent.nd
      exact (ss_cons (ss_set 4 nd (sk_frz (sk_lst (n := 9) (sa_cons (sk_tup (n := 1) (sa_cons sk_str sa_nil)) (sa_cons (sk_tup (n := 2) (sa_cons sk_str (sa_cons sk_int sa_nil))) (sa_cons (sk_tup (n := 2) (sa_cons sk_str (sa_cons sk_non sa_nil))) (sa_cons (sk_tup (n := 2) (sa_cons sk_str (sa_cons sk_int sa_nil))) (sa_cons (sk_tup (n := 2) (sa_cons sk_str (sa_cons sk_str sa_nil))) (sa_cons (sk_tup (n := 1) (sa_cons sk_str sa_nil)) (sa_cons (sk_tup (n := 2) (sa_cons sk_str (sa_cons (sk_tup (n := 0) sa_nil) sa_nil))) (sa_cons sk_str (sa_cons sk_str sa_nil))))))))))))
    (ss_cons (ss_set 4 nd (sk_frz (sk_op op_cat o2_cat (sk_var 4) (sk_lst (n := 7) (sa_cons sk_str (sa_cons sk_str (sa_cons sk_bl (sa_cons (sk_tup (n := 2) (sa_cons sk_str (sa_cons sk_bl sa_nil))) (sa_cons (sk_tup (n := 1) (sa_cons sk_str sa_nil)) (sa_cons (sk_tup (n := 2) (sa_cons sk_str (sa_cons sk_str sa_nil))) (sa_cons (sk_ix hu1 (sk_b1 (cr_sortA rfl) o1_sorted rfl m_sorted (sk_var 2)) sk_int) sa_nil)))))))))))
    (ss_cons (ss_if (sw_t (sw_or (st_not (st_val (sk_isi2 "list" "tuple" (sk_var 1) rfl m_isinstance rfl m_list rfl m_tuple))) (sw_or (st_cmp (op_eqP hu64) o2_eq (sk_b1 call_len o1_len rfl m_len (sk_var 1)) sk_int rfl) (sw_or (st_cmp (op_eqP hu64) o2_eq (sk_var 3) sk_int rfl) (sw_or1 (st_cmp (op_eqP hu64) o2_eq (sk_callH h__law_take (by omega) hgu hr rfl (sa_cons (sk_var 0) (sa_cons sk_int sa_nil))) sk_int rfl)))))) (ss_cons (ss_retR (sr_of (sk_callH h__law_pick (by omega) hgu hr rfl (sa_cons (sk_var 0) (sa_cons (sk_frz (sk_op op_cat o2_cat (sk_var 4) (sk_lst (n := 1) (sa_cons (sk_callH h__law_odd (by omega) hgu hr rfl (sa_cons (sk_var 0) sa_nil)) sa_nil)))) sa_nil)))))
    ss_nil) ss_nil)
    (ss_cons (ss_par3 5 6 7 .val .val .own rfl nd (sa_cons (sk_callH h__law_take (by omega) hgu hr rfl (sa_cons (sk_var 0) (sa_cons (sk_b1 call_len o1_len rfl m_len (sk_var 1)) sa_nil))) (sa_cons (sk_callH h__law_take (by omega) hgu hr rfl (sa_cons (sk_var 0) (sa_cons sk_int sa_nil))) (sa_cons (sk_t1 call_list_of o1_list rfl m_list (sk_var 1)) sa_nil))))
    (ss_cons (ss_if (st_cmp (op_eqP hu64) o2_eq (sk_var 6) sk_int rfl) (ss_cons (ss_popAt 7 (sk_var 5))
    ss_nil) (ss_cons (ss_if (st_cmp (op_eqP hu64) o2_eq (sk_var 6) sk_int rfl) (ss_cons (ss_insert 7 (sk_var 5) (sk_ix hu1 (sk_own 7) (sk_var 5)))
    ss_nil) (ss_cons (ss_if (st_cmp (op_eqP hu64) o2_eq (sk_var 6) sk_int rfl) (ss_cons (ss_append 7 (sk_callH h__law_pick (by omega) hgu hr rfl (sa_cons (sk_var 0) (sa_cons (sk_var 4) sa_nil))))
    ss_nil) (ss_cons (ss_if (st_cmp (op_eqP hu64) o2_eq (sk_var 6) sk_int rfl) (ss_cons (ss_setOwn 7 nd (sk_rev (sk_own 7)))
    ss_nil) (ss_cons (ss_setIt 7 hu1 (sk_callH h_rec (by omega) hgu hr rfl (sa_cons (sk_var 0) (sa_cons (sk_ix hu1 (sk_own 7) (sk_var 5)) (sa_cons (sk_var 2) (sa_cons (sk_op op_sub o2_sub (sk_var 3) sk_int) sa_nil))))) (sk_var 5))
    ss_nil))
    ss_nil))
    ss_nil))
    ss_nil))
    (ss_cons (ss_retR (sr_if (st_cmp (op_eqP hu64) o2_eq (sk_callH h__law_take (by omega) hgu hr rfl (sa_cons (sk_var 0) (sa_cons sk_int sa_nil))) sk_int rfl) (sr_own 7 (show Kd.val ≠ .bor by decide)) (sr_of (sk_t1 call_tuple_of o1_tuple rfl m_tuple (sk_own 7)))))
    ss_nil)))))))
end
/-! ### law -/
abbrev s_law : Stmt := topS 25
abbrev n_law : List Str := ["_law_script", "_law_draw", "_law_turn", "_law_kinds_here", "_law_item", "_law_change", "_law_inner", "_law_name", "_law_odd_here", "_law_due", "_law_looks", "_law_mixed_here"]
abbrev d_law : List Md := [.val, .val, .val, .val, .val, .val, .val, .val, .val, .val, .val, .val]
theorem sc_law : FnScope n_law ["_law_script"] (defScope s_law) := ⟨rfl, rfl, rfl, by decide +kernel, rfl, by decide +kernel, by decide +kernel⟩
section
variable {P : Program} {w : World} {K : PySem.W.Frag} {mg : Str → Option Value} {base : Heap} {cl : String → Option Addr}
theorem ok_law {f : Addr} {fd : FuncData} (F : Fun K "law" "law" s_law f fd) (hsy : HasSys base) (m_len : mg "len" = none) (m_min : mg "min" = none) (m_range : mg "range" = none) (m_repr : mg "repr" = none) (m_sorted : mg "sorted" = none)
    (h_is_tree : Has P w K mg base "is_tree" 44 ["thing"] (spF ⟨K, cl⟩ [.val] .val f_is_tree))
    (h__law_is_shape : Has P w K mg base "_law_is_shape" 43 ["_law_item", "_law_met"] (spF ⟨K, cl⟩ [.val, .val] .val (f__law_is_shape 40)))
    (h__law_odd : Has P w K mg base "_law_odd" 4 ["_law_draw"] (spF ⟨K, cl⟩ [.val] .val f__law_odd))
    (h__law_pick : Has P w K mg base "_law_pick" 3 ["_law_draw", "_law_some"] (spF ⟨K, cl⟩ [.val, .val] .val f__law_pick))
    (h__law_bent : Has P w K mg base "_law_bent" 15 ["_law_draw", "_law_item", "_law_kinds_here", "_law_deep"] (spF ⟨K, cl⟩ [.val, .val, .val, .val] .val (f__law_bent 10)))
    (h__law_drawn_tree : Has P w K mg base "_law_drawn_tree" 11 ["_law_draw", "_law_kinds_here", "_law_deep"] (spF ⟨K, cl⟩ [.val, .val, .val] .val f__law_drawn_tree))
    (h__law_kinds : Has P w K mg base "_law_kinds" 5 ["_law_draw", "_law_most", "_law_wide"] (spF ⟨K, cl⟩ [.val, .val, .val] .val f__law_kinds))
    (h__law_begun : Has P w K mg base "_law_begun" 1 ["_law_script"] (spF ⟨K, cl⟩ [.val] .val f__law_begun))
    (k_is_tree : HasK P w K mg base "is_tree" 44 "thing" (spF ⟨K, cl⟩ [.val] .val f_is_tree)) : FnG P w K mg base CX0 45 f fd ["_law_script"] (spF ⟨K, cl⟩ [.val] .val f_law) :=
  fn_okG (k := 44) (md := d_law) F sc_law rfl rfl (fun cdv A outer s0 H E B hB hgu hr => by
    obtain ⟨μ0, F0, H0, rk0⟩ := B
    have hB : rk0 = .val := hB
    subst hB
    have hu1 := room_u (n := 1) hr (by decide)
    have hu64 := room_u (n := 64) hr (by decide)
    have hu70 := room_u (n := 70) hr (by decide)
    have hu151 := room_u (n := 151) hr (by decide)
    have nd := sc_law.nd
    exact (ss_cons (ss_set 1 nd (sk_callH h__law_begun (by omega) hgu hr rfl (sa_cons (sk_var 0) sa_nil)))
  (ss_cons (ss_for PassesOwn.never rfl (sis_range1 rfl m_range (sk_op op_addA o2_add sk_int (sk_b2 (call_min2 rfl) o2_min rfl m_min (sk_b1 call_len o1_len rfl m_len (sk_var 0)) sk_int))) (sg_name 2 nd) (ss_cons (ss_set 3 nd (sk_callH h__law_kinds (by omega) hgu hr rfl (sa_cons (sk_var 1) (sa_cons sk_int (sa_cons sk_bl sa_nil)))))
  (ss_cons (ss_set 4 nd (sk_callH h__law_drawn_tree (by omega) hgu hr rfl (sa_cons (sk_var 1) (sa_cons (sk_var 3) (sa_cons sk_int sa_nil)))))
  (ss_cons (ss_for PassesOwn.never rfl (sis_range1 rfl m_range (sk_callH h__law_pick (by omega) hgu hr rfl (sa_cons (sk_var 1) (sa_cons (sk_frz (sk_lst (n := 5) (sa_cons sk_int (sa_cons sk_int (sa_cons sk_int (sa_cons sk_int (sa_cons sk_int sa_nil))))))) sa_nil)))) (sg_name 5 nd) (ss_cons (ss_set 4 nd (sk_callH h__law_bent (by omega) hgu hr rfl (sa_cons (sk_var 1) (sa_cons (sk_var 4) (sa_cons (sk_var 3) (sa_cons sk_int sa_nil))))))
  ss_nil) (by decide))
  (ss_cons (ss_par2 9 10 .val .val rfl nd (sa_cons (sk_callH h__law_is_shape (by omega) hgu hr rfl (sa_cons (sk_var 4) (sa_cons (sk_sto sk_dnew) sa_nil))) (sa_cons (sk_b1 (call_reprR hsy hgu hu151) o1_repr rfl m_repr (sk_var 4)) sa_nil)))
  (ss_cons (ss_if (sw_t (sw_or (st_cmp (op_neP hu64) o2_ne (sk_b1 (call_reprR hsy hgu hu151) o1_repr rfl m_repr (sk_lst (n := 2) (sa_cons (sk_callH h_is_tree (by omega) hgu hr rfl (sa_cons (sk_var 4) sa_nil)) (sa_cons (sk_callKH k_is_tree (by omega) hgu hr rfl (sk_var 4)) sa_nil)))) (sk_b1 (call_reprR hsy hgu hu151) o1_repr rfl m_repr (sk_lst (n := 2) (sa_cons (sk_var 9) (sa_cons (sk_var 9) sa_nil)))) rfl) (sw_or1 (st_cmp (op_neP hu64) o2_ne (sk_b1 (call_reprR hsy hgu hu151) o1_repr rfl m_repr (sk_var 4)) (sk_var 10) rfl)))) (ss_cons (ss_retR (sr_of sk_bl))
  ss_nil) ss_nil)
  (ss_cons (ss_set 6 nd (sk_tup (n := 2) (sa_cons (sk_tup (n := 2) (sa_cons sk_str (sa_cons (sk_tup (n := 1) (sa_cons sk_str sa_nil)) sa_nil))) (sa_cons (sk_tup (n := 2) (sa_cons sk_str (sa_cons (sk_tup (n := 2) (sa_cons sk_str (sa_cons sk_bl sa_nil))) sa_nil))) sa_nil))))
  (ss_cons (ss_for PassesOwn.never rfl (sis_seq (sk_frz (sk_lst (n := 5) (sa_cons sk_str (sa_cons sk_str (sa_cons sk_str (sa_cons sk_str (sa_cons (sk_ix hu1 (sk_b1 (cr_sortA rfl) o1_sorted rfl m_sorted (sk_var 3)) sk_int) sa_nil)))))))) (sg_name 7 nd) (ss_cons (ss_set 11 nd (sk_tup (n := 2) (sa_cons sk_str (sa_cons (sk_tup (n := 2) (sa_cons (sk_tup (n := 2) (sa_cons sk_str (sa_cons (sk_tup (n := 2) (sa_cons (sk_var 7) (sa_cons (sk_var 6) sa_nil))) sa_nil))) (sa_cons (sk_tup (n := 2) (sa_cons sk_str (sa_cons (sk_tup (n := 2) (sa_cons (sk_var 7) (sa_cons (sk_op op_addA o2_add (sk_tup (n := 1) (sa_cons (sk_tup (n := 2) (sa_cons sk_str (sa_cons (sk_tup (n := 1) (sa_cons sk_str sa_nil)) sa_nil))) sa_nil)) (sk_var 6)) sa_nil))) sa_nil))) sa_nil))) sa_nil))))
  (ss_cons (ss_if (sw_t (sw_or (st_cmp op_isnot_bl o2_notB (sk_callH h_is_tree (by omega) hgu hr rfl (sa_cons (sk_tup (n := 2) (sa_cons (sk_var 7) (sa_cons (sk_var 6) sa_nil))) sa_nil)) sk_bl rfl) (sw_or1 (st_cmp op_isnot_bl o2_notB (sk_callH h_is_tree (by omega) hgu hr rfl (sa_cons (sk_var 11) sa_nil)) sk_bl rfl)))) (ss_cons (ss_retR (sr_of sk_bl))
  ss_nil) ss_nil)
  ss_nil)) (by decide))
  (ss_cons (ss_set 8 nd (sk_callH h__law_odd (by omega) hgu hr rfl (sa_cons (sk_var 1) sa_nil)))
  (ss_cons (ss_if (st_cmp (op_neP hu64) o2_ne (sk_callH h_is_tree (by omega) hgu hr rfl (sa_cons (sk_var 8) sa_nil)) (sk_callH h__law_is_shape (by omega) hgu hr rfl (sa_cons (sk_var 8) (sa_cons (sk_sto sk_dnew) sa_nil))) rfl) (ss_cons (ss_retR (sr_of sk_bl))
  ss_nil) ss_nil)
  ss_nil))))))))) (by decide))
  (ss_cons (ss_retR (sr_of sk_bl))
  ss_nil))))
end
end K60
set_option maxHeartbeats 4000000
namespace K60
open PySem PySem.Spec PyProof.Rows L2 Sh
/-! ### what the top has written; the law's own head -/
theorem all_mk {l : PySem.W.OpenLaw} {w : World} {K : PySem.W.Frag} {h : Heap} {mg : Str → Option Value} {fa : Addr} (KH : K.In h) (G : h.Ns mainGlobals mg) (hfa : mg "law" = some (.ref fa))
    {fa_is_son : Addr} {od_is_son an_is_son : Option Addr} {sl_is_son : Array (Option Value)} {oc_is_son kV_is_son dc_is_son pm_is_son cd_is_son ct_is_son : Value}
    (a_is_son : PySem.W.nsIn K mainGlobals "is_son" = some (some (.ref fa_is_son))) (l_is_son : K.lookup fa_is_son = some ⟨oc_is_son, od_is_son, .func (PySem.W.fnOf "is_son" "is_son" (defArgs s_is_son) (defBody s_is_son) (defScope s_is_son) .none kV_is_son dc_is_son pm_is_son an_is_son cd_is_son ct_is_son), sl_is_son⟩) (c_is_son : PySem.W.codeIn K cd_is_son "is_son" = true) (k_is_son : PySem.W.keepIn K (.ref fa_is_son) = true)
    {fa_is_name : Addr} {od_is_name an_is_name : Option Addr} {sl_is_name : Array (Option Value)} {oc_is_name kV_is_name dc_is_name pm_is_name cd_is_name ct_is_name : Value}
    (a_is_name : PySem.W.nsIn K mainGlobals "is_name" = some (some (.ref fa_is_name))) (l_is_name : K.lookup fa_is_name = some ⟨oc_is_name, od_is_name, .func (PySem.W.fnOf "is_name" "is_name" (defArgs s_is_name) (defBody s_is_name) (defScope s_is_name) .none kV_is_name dc_is_name pm_is_name an_is_name cd_is_name ct_is_name), sl_is_name⟩) (c_is_name : PySem.W.codeIn K cd_is_name "is_name" = true) (k_is_name : PySem.W.keepIn K (.ref fa_is_name) = true)
    {fa_is_leaf : Addr} {od_is_leaf an_is_leaf : Option Addr} {sl_is_leaf : Array (Option Value)} {oc_is_leaf kV_is_leaf dc_is_leaf pm_is_leaf cd_is_leaf ct_is_leaf : Value}
    (a_is_leaf : PySem.W.nsIn K mainGlobals "is_leaf" = some (some (.ref fa_is_leaf))) (l_is_leaf : K.lookup fa_is_leaf = some ⟨oc_is_leaf, od_is_leaf, .func (PySem.W.fnOf "is_leaf" "is_leaf" (defArgs s_is_leaf) (defBody s_is_leaf) (defScope s_is_leaf) .none kV_is_leaf dc_is_leaf pm_is_leaf an_is_leaf cd_is_leaf ct_is_leaf), sl_is_leaf⟩) (c_is_leaf : PySem.W.codeIn K cd_is_leaf "is_leaf" = true) (k_is_leaf : PySem.W.keepIn K (.ref fa_is_leaf) = true)
    {fa_is_shaped : Addr} {od_is_shaped an_is_shaped : Option Addr} {sl_is_shaped : Array (Option Value)} {oc_is_shaped kV_is_shaped dc_is_shaped pm_is_shaped cd_is_shaped ct_is_shaped : Value}
    (a_is_shaped : PySem.W.nsIn K mainGlobals "is_shaped" = some (some (.ref fa_is_shaped))) (l_is_shaped : K.lookup fa_is_shaped = some ⟨oc_is_shaped, od_is_shaped, .func (PySem.W.fnOf "is_shaped" "is_shaped" (defArgs s_is_shaped) (defBody s_is_shaped) (defScope s_is_shaped) .none kV_is_shaped dc_is_shaped pm_is_shaped an_is_shaped cd_is_shaped ct_is_shaped), sl_is_shaped⟩) (c_is_shaped : PySem.W.codeIn K cd_is_shaped "is_shaped" = true) (k_is_shaped : PySem.W.keepIn K (.ref fa_is_shaped) = true)
    {fa_is_tree : Addr} {od_is_tree an_is_tree : Option Addr} {sl_is_tree : Array (Option Value)} {oc_is_tree kV_is_tree dc_is_tree pm_is_tree cd_is_tree ct_is_tree : Value}
    (a_is_tree : PySem.W.nsIn K mainGlobals "is_tree" = some (some (.ref fa_is_tree))) (l_is_tree : K.lookup fa_is_tree = some ⟨oc_is_tree, od_is_tree, .func (PySem.W.fnOf "is_tree" "is_tree" (defArgs s_is_tree) (defBody s_is_tree) (defScope s_is_tree) .none kV_is_tree dc_is_tree pm_is_tree an_is_tree cd_is_tree ct_is_tree), sl_is_tree⟩) (c_is_tree : PySem.W.codeIn K cd_is_tree "is_tree" = true) (k_is_tree : PySem.W.keepIn K (.ref fa_is_tree) = true)
    {fa__law_is_name : Addr} {od__law_is_name an__law_is_name : Option Addr} {sl__law_is_name : Array (Option Value)} {oc__law_is_name kV__law_is_name dc__law_is_name pm__law_is_name cd__law_is_name ct__law_is_name : Value}
    (a__law_is_name : PySem.W.nsIn K mainGlobals "_law_is_name" = some (some (.ref fa__law_is_name))) (l__law_is_name : K.lookup fa__law_is_name = some ⟨oc__law_is_name, od__law_is_name, .func (PySem.W.fnOf "_law_is_name" "_law_is_name" (defArgs s__law_is_name) (defBody s__law_is_name) (defScope s__law_is_name) .none kV__law_is_name dc__law_is_name pm__law_is_name an__law_is_name cd__law_is_name ct__law_is_name), sl__law_is_name⟩) (c__law_is_name : PySem.W.codeIn K cd__law_is_name "_law_is_name" = true) (k__law_is_name : PySem.W.keepIn K (.ref fa__law_is_name) = true)
    {fa__law_is_end_of_tree : Addr} {od__law_is_end_of_tree an__law_is_end_of_tree : Option Addr} {sl__law_is_end_of_tree : Array (Option Value)} {oc__law_is_end_of_tree kV__law_is_end_of_tree dc__law_is_end_of_tree pm__law_is_end_of_tree cd__law_is_end_of_tree ct__law_is_end_of_tree : Value}
    (a__law_is_end_of_tree : PySem.W.nsIn K mainGlobals "_law_is_end_of_tree" = some (some (.ref fa__law_is_end_of_tree))) (l__law_is_end_of_tree : K.lookup fa__law_is_end_of_tree = some ⟨oc__law_is_end_of_tree, od__law_is_end_of_tree, .func (PySem.W.fnOf "_law_is_end_of_tree" "_law_is_end_of_tree" (defArgs s__law_is_end_of_tree) (defBody s__law_is_end_of_tree) (defScope s__law_is_end_of_tree) .none kV__law_is_end_of_tree dc__law_is_end_of_tree pm__law_is_end_of_tree an__law_is_end_of_tree cd__law_is_end_of_tree ct__law_is_end_of_tree), sl__law_is_end_of_tree⟩) (c__law_is_end_of_tree : PySem.W.codeIn K cd__law_is_end_of_tree "_law_is_end_of_tree" = true) (k__law_is_end_of_tree : PySem.W.keepIn K (.ref fa__law_is_end_of_tree) = true)
    {fa__law_is_shape : Addr} {od__law_is_shape an__law_is_shape : Option Addr} {sl__law_is_shape : Array (Option Value)} {oc__law_is_shape kV__law_is_shape dc__law_is_shape pm__law_is_shape cd__law_is_shape ct__law_is_shape : Value}
    (a__law_is_shape : PySem.W.nsIn K mainGlobals "_law_is_shape" = some (some (.ref fa__law_is_shape))) (l__law_is_shape : K.lookup fa__law_is_shape = some ⟨oc__law_is_shape, od__law_is_shape, .func (PySem.W.fnOf "_law_is_shape" "_law_is_shape" (defArgs s__law_is_shape) (defBody s__law_is_shape) (defScope s__law_is_shape) .none kV__law_is_shape dc__law_is_shape pm__law_is_shape an__law_is_shape cd__law_is_shape ct__law_is_shape), sl__law_is_shape⟩) (c__law_is_shape : PySem.W.codeIn K cd__law_is_shape "_law_is_shape" = true) (k__law_is_shape : PySem.W.keepIn K (.ref fa__law_is_shape) = true)
    {fa__law_mixed : Addr} {od__law_mixed an__law_mixed : Option Addr} {sl__law_mixed : Array (Option Value)} {oc__law_mixed kV__law_mixed dc__law_mixed pm__law_mixed cd__law_mixed ct__law_mixed : Value}
    (a__law_mixed : PySem.W.nsIn K mainGlobals "_law_mixed" = some (some (.ref fa__law_mixed))) (l__law_mixed : K.lookup fa__law_mixed = some ⟨oc__law_mixed, od__law_mixed, .func (PySem.W.fnOf "_law_mixed" "_law_mixed" (defArgs s__law_mixed) (defBody s__law_mixed) (defScope s__law_mixed) .none kV__law_mixed dc__law_mixed pm__law_mixed an__law_mixed cd__law_mixed ct__law_mixed), sl__law_mixed⟩) (c__law_mixed : PySem.W.codeIn K cd__law_mixed "_law_mixed" = true) (k__law_mixed : PySem.W.keepIn K (.ref fa__law_mixed) = true)
    {fa__law_take : Addr} {od__law_take an__law_take : Option Addr} {sl__law_take : Array (Option Value)} {oc__law_take kV__law_take dc__law_take pm__law_take cd__law_take ct__law_take : Value}
    (a__law_take : PySem.W.nsIn K mainGlobals "_law_take" = some (some (.ref fa__law_take))) (l__law_take : K.lookup fa__law_take = some ⟨oc__law_take, od__law_take, .func (PySem.W.fnOf "_law_take" "_law_take" (defArgs s__law_take) (defBody s__law_take) (defScope s__law_take) .none kV__law_take dc__law_take pm__law_take an__law_take cd__law_take ct__law_take), sl__law_take⟩) (c__law_take : PySem.W.codeIn K cd__law_take "_law_take" = true) (k__law_take : PySem.W.keepIn K (.ref fa__law_take) = true)
    {fa__law_pick : Addr} {od__law_pick an__law_pick : Option Addr} {sl__law_pick : Array (Option Value)} {oc__law_pick kV__law_pick dc__law_pick pm__law_pick cd__law_pick ct__law_pick : Value}
    (a__law_pick : PySem.W.nsIn K mainGlobals "_law_pick" = some (some (.ref fa__law_pick))) (l__law_pick : K.lookup fa__law_pick = some ⟨oc__law_pick, od__law_pick, .func (PySem.W.fnOf "_law_pick" "_law_pick" (defArgs s__law_pick) (defBody s__law_pick) (defScope s__law_pick) .none kV__law_pick dc__law_pick pm__law_pick an__law_pick cd__law_pick ct__law_pick), sl__law_pick⟩) (c__law_pick : PySem.W.codeIn K cd__law_pick "_law_pick" = true) (k__law_pick : PySem.W.keepIn K (.ref fa__law_pick) = true)
    {fa__law_odd : Addr} {od__law_odd an__law_odd : Option Addr} {sl__law_odd : Array (Option Value)} {oc__law_odd kV__law_odd dc__law_odd pm__law_odd cd__law_odd ct__law_odd : Value}
    (a__law_odd : PySem.W.nsIn K mainGlobals "_law_odd" = some (some (.ref fa__law_odd))) (l__law_odd : K.lookup fa__law_odd = some ⟨oc__law_odd, od__law_odd, .func (PySem.W.fnOf "_law_odd" "_law_odd" (defArgs s__law_odd) (defBody s__law_odd) (defScope s__law_odd) .none kV__law_odd dc__law_odd pm__law_odd an__law_odd cd__law_odd ct__law_odd), sl__law_odd⟩) (c__law_odd : PySem.W.codeIn K cd__law_odd "_law_odd" = true) (k__law_odd : PySem.W.keepIn K (.ref fa__law_odd) = true)
    {fa__law_bent : Addr} {od__law_bent an__law_bent : Option Addr} {sl__law_bent : Array (Option Value)} {oc__law_bent kV__law_bent dc__law_bent pm__law_bent cd__law_bent ct__law_bent : Value}
    (a__law_bent : PySem.W.nsIn K mainGlobals "_law_bent" = some (some (.ref fa__law_bent))) (l__law_bent : K.lookup fa__law_bent = some ⟨oc__law_bent, od__law_bent, .func (PySem.W.fnOf "_law_bent" "_law_bent" (defArgs s__law_bent) (defBody s__law_bent) (defScope s__law_bent) .none kV__law_bent dc__law_bent pm__law_bent an__law_bent cd__law_bent ct__law_bent), sl__law_bent⟩) (c__law_bent : PySem.W.codeIn K cd__law_bent "_law_bent" = true) (k__law_bent : PySem.W.keepIn K (.ref fa__law_bent) = true)
    {fa__law_leaf : Addr} {od__law_leaf an__law_leaf : Option Addr} {sl__law_leaf : Array (Option Value)} {oc__law_leaf kV__law_leaf dc__law_leaf pm__law_leaf cd__law_leaf ct__law_leaf : Value}
    (a__law_leaf : PySem.W.nsIn K mainGlobals "_law_leaf" = some (some (.ref fa__law_leaf))) (l__law_leaf : K.lookup fa__law_leaf = some ⟨oc__law_leaf, od__law_leaf, .func (PySem.W.fnOf "_law_leaf" "_law_leaf" (defArgs s__law_leaf) (defBody s__law_leaf) (defScope s__law_leaf) .none kV__law_leaf dc__law_leaf pm__law_leaf an__law_leaf cd__law_leaf ct__law_leaf), sl__law_leaf⟩) (c__law_leaf : PySem.W.codeIn K cd__law_leaf "_law_leaf" = true) (k__law_leaf : PySem.W.keepIn K (.ref fa__law_leaf) = true)
    {fa__law_tree : Addr} {od__law_tree an__law_tree : Option Addr} {sl__law_tree : Array (Option Value)} {oc__law_tree kV__law_tree dc__law_tree pm__law_tree cd__law_tree ct__law_tree : Value}
    (a__law_tree : PySem.W.nsIn K mainGlobals "_law_tree" = some (some (.ref fa__law_tree))) (l__law_tree : K.lookup fa__law_tree = some ⟨oc__law_tree, od__law_tree, .func (PySem.W.fnOf "_law_tree" "_law_tree" (defArgs s__law_tree) (defBody s__law_tree) (defScope s__law_tree) .none kV__law_tree dc__law_tree pm__law_tree an__law_tree cd__law_tree ct__law_tree), sl__law_tree⟩) (c__law_tree : PySem.W.codeIn K cd__law_tree "_law_tree" = true) (k__law_tree : PySem.W.keepIn K (.ref fa__law_tree) = true)
    {fa__law_drawn_tree : Addr} {od__law_drawn_tree an__law_drawn_tree : Option Addr} {sl__law_drawn_tree : Array (Option Value)} {oc__law_drawn_tree kV__law_drawn_tree dc__law_drawn_tree pm__law_drawn_tree cd__law_drawn_tree ct__law_drawn_tree : Value}
    (a__law_drawn_tree : PySem.W.nsIn K mainGlobals "_law_drawn_tree" = some (some (.ref fa__law_drawn_tree))) (l__law_drawn_tree : K.lookup fa__law_drawn_tree = some ⟨oc__law_drawn_tree, od__law_drawn_tree, .func (PySem.W.fnOf "_law_drawn_tree" "_law_drawn_tree" (defArgs s__law_drawn_tree) (defBody s__law_drawn_tree) (defScope s__law_drawn_tree) .none kV__law_drawn_tree dc__law_drawn_tree pm__law_drawn_tree an__law_drawn_tree cd__law_drawn_tree ct__law_drawn_tree), sl__law_drawn_tree⟩) (c__law_drawn_tree : PySem.W.codeIn K cd__law_drawn_tree "_law_drawn_tree" = true) (k__law_drawn_tree : PySem.W.keepIn K (.ref fa__law_drawn_tree) = true)
    {fa__law_labels : Addr} {od__law_labels an__law_labels : Option Addr} {sl__law_labels : Array (Option Value)} {oc__law_labels kV__law_labels dc__law_labels pm__law_labels cd__law_labels ct__law_labels : Value}
    (a__law_labels : PySem.W.nsIn K mainGlobals "_law_labels" = some (some (.ref fa__law_labels))) (l__law_labels : K.lookup fa__law_labels = some ⟨oc__law_labels, od__law_labels, .func (PySem.W.fnOf "_law_labels" "_law_labels" (defArgs s__law_labels) (defBody s__law_labels) (defScope s__law_labels) .none kV__law_labels dc__law_labels pm__law_labels an__law_labels cd__law_labels ct__law_labels), sl__law_labels⟩) (c__law_labels : PySem.W.codeIn K cd__law_labels "_law_labels" = true) (k__law_labels : PySem.W.keepIn K (.ref fa__law_labels) = true)
    {fa__law_kinds : Addr} {od__law_kinds an__law_kinds : Option Addr} {sl__law_kinds : Array (Option Value)} {oc__law_kinds kV__law_kinds dc__law_kinds pm__law_kinds cd__law_kinds ct__law_kinds : Value}
    (a__law_kinds : PySem.W.nsIn K mainGlobals "_law_kinds" = some (some (.ref fa__law_kinds))) (l__law_kinds : K.lookup fa__law_kinds = some ⟨oc__law_kinds, od__law_kinds, .func (PySem.W.fnOf "_law_kinds" "_law_kinds" (defArgs s__law_kinds) (defBody s__law_kinds) (defScope s__law_kinds) .none kV__law_kinds dc__law_kinds pm__law_kinds an__law_kinds cd__law_kinds ct__law_kinds), sl__law_kinds⟩) (c__law_kinds : PySem.W.codeIn K cd__law_kinds "_law_kinds" = true) (k__law_kinds : PySem.W.keepIn K (.ref fa__law_kinds) = true)
    {fa__law_begun : Addr} {od__law_begun an__law_begun : Option Addr} {sl__law_begun : Array (Option Value)} {oc__law_begun kV__law_begun dc__law_begun pm__law_begun cd__law_begun ct__law_begun : Value}
    (a__law_begun : PySem.W.nsIn K mainGlobals "_law_begun" = some (some (.ref fa__law_begun))) (l__law_begun : K.lookup fa__law_begun = some ⟨oc__law_begun, od__law_begun, .func (PySem.W.fnOf "_law_begun" "_law_begun" (defArgs s__law_begun) (defBody s__law_begun) (defScope s__law_begun) .none kV__law_begun dc__law_begun pm__law_begun an__law_begun cd__law_begun ct__law_begun), sl__law_begun⟩) (c__law_begun : PySem.W.codeIn K cd__law_begun "_law_begun" = true) (k__law_begun : PySem.W.keepIn K (.ref fa__law_begun) = true)
    {fa_law : Addr} {od_law an_law : Option Addr} {sl_law : Array (Option Value)} {oc_law kV_law dc_law pm_law cd_law ct_law : Value}
    (a_law : PySem.W.nsIn K mainGlobals "law" = some (some (.ref fa_law))) (l_law : K.lookup fa_law = some ⟨oc_law, od_law, .func (PySem.W.fnOf "law" "law" (defArgs s_law) (defBody s_law) (defScope s_law) .none kV_law dc_law pm_law an_law cd_law ct_law), sl_law⟩) (c_law : PySem.W.codeIn K cd_law "law" = true) (k_law : PySem.W.keepIn K (.ref fa_law) = true)
    {t_LETTERS : Tok} (g_LETTERS : PySem.W.nsIn K mainGlobals "LETTERS" = some (some (.str "abcdefghijklmnopqrstuvwxyz" t_LETTERS)))
    {p_SURE : Addr} {od_SURE : Option Addr} {sl_SURE : Array (Option Value)} {n_SURE : Nat} {t0_SURE t1_SURE : Tok} (g_SURE : PySem.W.nsIn K mainGlobals "SURE" = some (some (.ref p_SURE))) (h_SURE : K.lookup p_SURE = some ⟨.type "tuple", od_SURE, .seq #[.str "no" t0_SURE, .str "yes" t1_SURE] n_SURE, sl_SURE⟩)
    {p_UNSURE : Addr} {od_UNSURE : Option Addr} {sl_UNSURE : Array (Option Value)} {n_UNSURE : Nat} {t0_UNSURE t1_UNSURE t2_UNSURE : Tok} (g_UNSURE : PySem.W.nsIn K mainGlobals "UNSURE" = some (some (.ref p_UNSURE))) (h_UNSURE : K.lookup p_UNSURE = some ⟨.type "tuple", od_UNSURE, .seq #[.str "fail" t0_UNSURE, .str "no" t1_UNSURE, .str "yes" t2_UNSURE] n_UNSURE, sl_UNSURE⟩)
    (z_abs : PySem.W.nsIn K mainGlobals "abs" = some none)
    (z_all : PySem.W.nsIn K mainGlobals "all" = some none)
    (z_bool : PySem.W.nsIn K mainGlobals "bool" = some none)
    (z_int : PySem.W.nsIn K mainGlobals "int" = some none)
    (z_isinstance : PySem.W.nsIn K mainGlobals "isinstance" = some none)
    (z_len : PySem.W.nsIn K mainGlobals "len" = some none)
    (z_list : PySem.W.nsIn K mainGlobals "list" = some none)
    (z_min : PySem.W.nsIn K mainGlobals "min" = some none)
    (z_range : PySem.W.nsIn K mainGlobals "range" = some none)
    (z_repr : PySem.W.nsIn K mainGlobals "repr" = some none)
    (z_sorted : PySem.W.nsIn K mainGlobals "sorted" = some none)
    (z_str : PySem.W.nsIn K mainGlobals "str" = some none)
    (z_tuple : PySem.W.nsIn K mainGlobals "tuple" = some none)
    : ∃ fd : FuncData, (∀ (s : Shared) (v : Value), BindsTo s fd ⟨[v], []⟩ [("_law_script", v)]) ∧ ∀ base : Heap, K.In base → base.Ns mainGlobals mg → HasSys base → FnG l.prog w K mg base CX0 45 fa fd ["_law_script"] (spF ⟨K, fun _ => none⟩ [.val] .val f_law) := by
  have e := hfa.symm.trans (PySem.W.mg_of KH G a_law)
  cases e
  have F_is_son := fun_mk (st := s_is_son) l_is_son c_is_son k_is_son
  have b_is_son := F_is_son.binds (ps := ["thing"]) fun _ _ _ _ _ _ us hl => match us, hl with | [_], _ => rfl
  have F_is_name := fun_mk (st := s_is_name) l_is_name c_is_name k_is_name
  have b_is_name := F_is_name.binds (ps := ["thing"]) fun _ _ _ _ _ _ us hl => match us, hl with | [_], _ => rfl
  have F_is_leaf := fun_mk (st := s_is_leaf) l_is_leaf c_is_leaf k_is_leaf
  have b_is_leaf := F_is_leaf.binds (ps := ["thing"]) fun _ _ _ _ _ _ us hl => match us, hl with | [_], _ => rfl
  have F_is_shaped := fun_mk (st := s_is_shaped) l_is_shaped c_is_shaped k_is_shaped
  have b_is_shaped := F_is_shaped.binds (ps := ["thing", "kinds"]) fun _ _ _ _ _ _ us hl => match us, hl with | [_, _], _ => rfl
  have F_is_tree := fun_mk (st := s_is_tree) l_is_tree c_is_tree k_is_tree
  have b_is_tree := F_is_tree.binds (ps := ["thing"]) fun _ _ _ _ _ _ us hl => match us, hl with | [_], _ => rfl
  have F__law_is_name := fun_mk (st := s__law_is_name) l__law_is_name c__law_is_name k__law_is_name
  have b__law_is_name := F__law_is_name.binds (ps := ["_law_item"]) fun _ _ _ _ _ _ us hl => match us, hl with | [_], _ => rfl
  have F__law_is_end_of_tree := fun_mk (st := s__law_is_end_of_tree) l__law_is_end_of_tree c__law_is_end_of_tree k__law_is_end_of_tree
  have b__law_is_end_of_tree := F__law_is_end_of_tree.binds (ps := ["_law_item"]) fun _ _ _ _ _ _ us hl => match us, hl with | [_], _ => rfl
  have F__law_is_shape := fun_mk (st := s__law_is_shape) l__law_is_shape c__law_is_shape k__law_is_shape
  have b__law_is_shape := F__law_is_shape.binds (ps := ["_law_item", "_law_met"]) fun _ _ _ _ _ _ us hl => match us, hl with | [_, _], _ => rfl
  have F__law_mixed := fun_mk (st := s__law_mixed) l__law_mixed c__law_mixed k__law_mixed
  have b__law_mixed := F__law_mixed.binds (ps := ["_law_draw"]) fun _ _ _ _ _ _ us hl => match us, hl with | [_], _ => rfl
  have F__law_take := fun_mk (st := s__law_take) l__law_take c__law_take k__law_take
  have b__law_take := F__law_take.binds (ps := ["_law_draw", "_law_size"]) fun _ _ _ _ _ _ us hl => match us, hl with | [_, _], _ => rfl
  have F__law_pick := fun_mk (st := s__law_pick) l__law_pick c__law_pick k__law_pick
  have b__law_pick := F__law_pick.binds (ps := ["_law_draw", "_law_some"]) fun _ _ _ _ _ _ us hl => match us, hl with | [_, _], _ => rfl
  have F__law_odd := fun_mk (st := s__law_odd) l__law_odd c__law_odd k__law_odd
  have b__law_odd := F__law_odd.binds (ps := ["_law_draw"]) fun _ _ _ _ _ _ us hl => match us, hl with | [_], _ => rfl
  have F__law_bent := fun_mk (st := s__law_bent) l__law_bent c__law_bent k__law_bent
  have b__law_bent := F__law_bent.binds (ps := ["_law_draw", "_law_item", "_law_kinds_here", "_law_deep"]) fun _ _ _ _ _ _ us hl => match us, hl with | [_, _, _, _], _ => rfl
  have F__law_leaf := fun_mk (st := s__law_leaf) l__law_leaf c__law_leaf k__law_leaf
  have b__law_leaf := F__law_leaf.binds (ps := ["_law_draw", "_law_kinds_here"]) fun _ _ _ _ _ _ us hl => match us, hl with | [_, _], _ => rfl
  have F__law_tree := fun_mk (st := s__law_tree) l__law_tree c__law_tree k__law_tree
  have b__law_tree := F__law_tree.binds (ps := ["_law_draw", "_law_kinds_here", "_law_deep", "_law_deed"]) fun _ _ _ _ _ _ us hl => match us, hl with | [_, _, _, _], _ => rfl
  have F__law_drawn_tree := fun_mk (st := s__law_drawn_tree) l__law_drawn_tree c__law_drawn_tree k__law_drawn_tree
  have b__law_drawn_tree := F__law_drawn_tree.binds (ps := ["_law_draw", "_law_kinds_here", "_law_deep"]) fun _ _ _ _ _ _ us hl => match us, hl with | [_, _, _], _ => rfl
  have F__law_labels := fun_mk (st := s__law_labels) l__law_labels c__law_labels k__law_labels
  have b__law_labels := F__law_labels.binds (ps := ["_law_draw", "_law_many"]) fun _ _ _ _ _ _ us hl => match us, hl with | [_, _], _ => rfl
  have F__law_kinds := fun_mk (st := s__law_kinds) l__law_kinds c__law_kinds k__law_kinds
  have b__law_kinds := F__law_kinds.binds (ps := ["_law_draw", "_law_most", "_law_wide"]) fun _ _ _ _ _ _ us hl => match us, hl with | [_, _, _], _ => rfl
  have F__law_begun := fun_mk (st := s__law_begun) l__law_begun c__law_begun k__law_begun
  have b__law_begun := F__law_begun.binds (ps := ["_law_script"]) fun _ _ _ _ _ _ us hl => match us, hl with | [_], _ => rfl
  have F_law := fun_mk (st := s_law) l_law c_law k_law
  have b_law := F_law.binds (ps := ["_law_script"]) fun _ _ _ _ _ _ us hl => match us, hl with | [_], _ => rfl
  have m_abs := PySem.W.mg_none_of KH G z_abs
  have m_all := PySem.W.mg_none_of KH G z_all
  have m_bool := PySem.W.mg_none_of KH G z_bool
  have m_int := PySem.W.mg_none_of KH G z_int
  have m_isinstance := PySem.W.mg_none_of KH G z_isinstance
  have m_len := PySem.W.mg_none_of KH G z_len
  have m_list := PySem.W.mg_none_of KH G z_list
  have m_min := PySem.W.mg_none_of KH G z_min
  have m_range := PySem.W.mg_none_of KH G z_range
  have m_repr := PySem.W.mg_none_of KH G z_repr
  have m_sorted := PySem.W.mg_none_of KH G z_sorted
  have m_str := PySem.W.mg_none_of KH G z_str
  have m_tuple := PySem.W.mg_none_of KH G z_tuple
  have G_LETTERS : G_LETTERS K mg := fun cl md X pos hK hM hG => sk_gstr (s := "abcdefghijklmnopqrstuvwxyz") hG (by rw [hM]; exact PySem.W.mg_of KH G g_LETTERS) (by decide +kernel)
  have G_SURE : G_SURE K mg := fun cl md X pos hK hM hG => sk_gtup (ss := l_SURE) (its := #[.str "no" t0_SURE, .str "yes" t1_SURE]) hG (by rw [hM]; exact PySem.W.mg_of KH G g_SURE) (by rw [hK]; exact h_SURE) rfl rfl (show (2 : Nat) ≤ 1000 by decide) (.cons ⟨_, rfl⟩ (.cons ⟨_, rfl⟩ .nil)) (by decide +kernel)
  have G_UNSURE : G_UNSURE K mg := fun cl md X pos hK hM hG => sk_gtup (ss := l_UNSURE) (its := #[.str "fail" t0_UNSURE, .str "no" t1_UNSURE, .str "yes" t2_UNSURE]) hG (by rw [hM]; exact PySem.W.mg_of KH G g_UNSURE) (by rw [hK]; exact h_UNSURE) rfl rfl (show (3 : Nat) ≤ 1000 by decide) (.cons ⟨_, rfl⟩ (.cons ⟨_, rfl⟩ (.cons ⟨_, rfl⟩ .nil))) (by decide +kernel)
  refine ⟨PySem.W.fnOf "law" "law" (defArgs s_law) (defBody s_law) (defScope s_law) .none kV_law dc_law pm_law an_law cd_law ct_law, fun s v => .of_eq rfl, fun base _ _ hsy => ?_⟩
  have o_is_son := ok_is_son (P := l.prog) (w := w) (cl := fun _ => none) F_is_son hsy m_isinstance m_len m_str m_tuple
  have h_is_son : Has l.prog w K mg base "is_son" _ _ _ := ⟨⟨fa_is_son, _, o_is_son, PySem.W.mg_of KH G a_is_son, k_is_son, b_is_son⟩⟩
  have o_is_name := ok_is_name (P := l.prog) (w := w) (cl := fun _ => none) F_is_name hsy m_all m_isinstance m_len m_str G_LETTERS
  have h_is_name : Has l.prog w K mg base "is_name" _ _ _ := ⟨⟨fa_is_name, _, o_is_name, PySem.W.mg_of KH G a_is_name, k_is_name, b_is_name⟩⟩
  have o_is_leaf := ok_is_leaf (P := l.prog) (w := w) (cl := fun _ => none) F_is_leaf hsy m_bool m_isinstance m_len m_str m_tuple h_is_name
  have h_is_leaf : Has l.prog w K mg base "is_leaf" _ _ _ := ⟨⟨fa_is_leaf, _, o_is_leaf, PySem.W.mg_of KH G a_is_leaf, k_is_leaf, b_is_leaf⟩⟩
  have o_is_shaped := fun n => ok_is_shaped (P := l.prog) (w := w) (cl := fun _ => none) F_is_shaped hsy (PySem.W.mg_of KH G a_is_shaped) k_is_shaped b_is_shaped m_all m_isinstance m_len m_tuple G_UNSURE G_SURE h_is_son h_is_name h_is_leaf n
  have h_is_shaped : Has l.prog w K mg base "is_shaped" _ _ _ := ⟨⟨fa_is_shaped, _, (o_is_shaped 40), PySem.W.mg_of KH G a_is_shaped, k_is_shaped, b_is_shaped⟩⟩
  have o_is_tree := ok_is_tree (P := l.prog) (w := w) (cl := fun _ => none) F_is_tree hsy h_is_shaped
  have h_is_tree : Has l.prog w K mg base "is_tree" _ _ _ := ⟨⟨fa_is_tree, _, o_is_tree, PySem.W.mg_of KH G a_is_tree, k_is_tree, b_is_tree⟩⟩
  have k1_is_tree : HasK l.prog w K mg base "is_tree" _ _ _ := ⟨⟨fa_is_tree, _, o_is_tree, PySem.W.mg_of KH G a_is_tree, k_is_tree, Fun.kbinds1 F_is_tree fun _ _ _ _ _ _ us ws hl => match us, ws, hl with | [_], [], _ => rfl | [], [_], _ => rfl⟩⟩
  have o__law_is_name := ok__law_is_name (P := l.prog) (w := w) (cl := fun _ => none) F__law_is_name hsy m_isinstance m_len m_str
  have h__law_is_name : Has l.prog w K mg base "_law_is_name" _ _ _ := ⟨⟨fa__law_is_name, _, o__law_is_name, PySem.W.mg_of KH G a__law_is_name, k__law_is_name, b__law_is_name⟩⟩
  have o__law_is_end_of_tree := ok__law_is_end_of_tree (P := l.prog) (w := w) (cl := fun _ => none) F__law_is_end_of_tree hsy m_bool m_isinstance m_len m_str m_tuple h__law_is_name
  have h__law_is_end_of_tree : Has l.prog w K mg base "_law_is_end_of_tree" _ _ _ := ⟨⟨fa__law_is_end_of_tree, _, o__law_is_end_of_tree, PySem.W.mg_of KH G a__law_is_end_of_tree, k__law_is_end_of_tree, b__law_is_end_of_tree⟩⟩
  have o__law_is_shape := fun n => ok__law_is_shape (P := l.prog) (w := w) (cl := fun _ => none) F__law_is_shape hsy (PySem.W.mg_of KH G a__law_is_shape) k__law_is_shape b__law_is_shape m_isinstance m_len m_str m_tuple h__law_is_name h__law_is_end_of_tree n
  have h__law_is_shape : Has l.prog w K mg base "_law_is_shape" _ _ _ := ⟨⟨fa__law_is_shape, _, (o__law_is_shape 40), PySem.W.mg_of KH G a__law_is_shape, k__law_is_shape, b__law_is_shape⟩⟩
  have o__law_mixed := ok__law_mixed (P := l.prog) (w := w) (cl := fun _ => none) F__law_mixed hsy m_int
  have h__law_mixed : Has l.prog w K mg base "_law_mixed" _ _ _ := ⟨⟨fa__law_mixed, _, o__law_mixed, PySem.W.mg_of KH G a__law_mixed, k__law_mixed, b__law_mixed⟩⟩
  have o__law_take := ok__law_take (P := l.prog) (w := w) (cl := fun _ => none) F__law_take hsy m_int h__law_mixed
  have h__law_take : Has l.prog w K mg base "_law_take" _ _ _ := ⟨⟨fa__law_take, _, o__law_take, PySem.W.mg_of KH G a__law_take, k__law_take, b__law_take⟩⟩
  have o__law_pick := ok__law_pick (P := l.prog) (w := w) (cl := fun _ => none) F__law_pick hsy m_len h__law_take
  have h__law_pick : Has l.prog w K mg base "_law_pick" _ _ _ := ⟨⟨fa__law_pick, _, o__law_pick, PySem.W.mg_of KH G a__law_pick, k__law_pick, b__law_pick⟩⟩
  have o__law_odd := ok__law_odd (P := l.prog) (w := w) (cl := fun _ => none) F__law_odd hsy h__law_pick
  have h__law_odd : Has l.prog w K mg base "_law_odd" _ _ _ := ⟨⟨fa__law_odd, _, o__law_odd, PySem.W.mg_of KH G a__law_odd, k__law_odd, b__law_odd⟩⟩
  have o__law_bent := fun n => ok__law_bent (P := l.prog) (w := w) (cl := fun _ => none) F__law_bent hsy (PySem.W.mg_of KH G a__law_bent) k__law_bent b__law_bent m_isinstance m_len m_list m_sorted m_tuple h__law_take h__law_pick h__law_odd n
  have h__law_bent : Has l.prog w K mg base "_law_bent" _ _ _ := ⟨⟨fa__law_bent, _, (o__law_bent 10), PySem.W.mg_of KH G a__law_bent, k__law_bent, b__law_bent⟩⟩
  have o__law_leaf := ok__law_leaf (P := l.prog) (w := w) (cl := fun _ => none) F__law_leaf hsy m_sorted h__law_pick
  have h__law_leaf : Has l.prog w K mg base "_law_leaf" _ _ _ := ⟨⟨fa__law_leaf, _, o__law_leaf, PySem.W.mg_of KH G a__law_leaf, k__law_leaf, b__law_leaf⟩⟩
  have o__law_tree := fun n => ok__law_tree (P := l.prog) (w := w) (cl := fun _ => none) F__law_tree hsy (PySem.W.mg_of KH G a__law_tree) k__law_tree b__law_tree m_sorted m_tuple h__law_pick h__law_take h__law_leaf n
  have h__law_tree : Has l.prog w K mg base "_law_tree" _ _ _ := ⟨⟨fa__law_tree, _, (o__law_tree 5), PySem.W.mg_of KH G a__law_tree, k__law_tree, b__law_tree⟩⟩
  have o__law_drawn_tree := ok__law_drawn_tree (P := l.prog) (w := w) (cl := fun _ => none) F__law_drawn_tree hsy m_sorted h__law_pick h__law_tree
  have h__law_drawn_tree : Has l.prog w K mg base "_law_drawn_tree" _ _ _ := ⟨⟨fa__law_drawn_tree, _, o__law_drawn_tree, PySem.W.mg_of KH G a__law_drawn_tree, k__law_drawn_tree, b__law_drawn_tree⟩⟩
  have o__law_labels := ok__law_labels (P := l.prog) (w := w) (cl := fun _ => none) F__law_labels hsy m_range h__law_pick
  have h__law_labels : Has l.prog w K mg base "_law_labels" _ _ _ := ⟨⟨fa__law_labels, _, o__law_labels, PySem.W.mg_of KH G a__law_labels, k__law_labels, b__law_labels⟩⟩
  have o__law_kinds := ok__law_kinds (P := l.prog) (w := w) (cl := fun _ => none) F__law_kinds hsy m_sorted h__law_take h__law_labels
  have h__law_kinds : Has l.prog w K mg base "_law_kinds" _ _ _ := ⟨⟨fa__law_kinds, _, o__law_kinds, PySem.W.mg_of KH G a__law_kinds, k__law_kinds, b__law_kinds⟩⟩
  have o__law_begun := ok__law_begun (P := l.prog) (w := w) (cl := fun _ => none) F__law_begun hsy m_abs m_int
  have h__law_begun : Has l.prog w K mg base "_law_begun" _ _ _ := ⟨⟨fa__law_begun, _, o__law_begun, PySem.W.mg_of KH G a__law_begun, k__law_begun, b__law_begun⟩⟩
  have o_law := ok_law (P := l.prog) (w := w) (cl := fun _ => none) F_law hsy m_len m_min m_range m_repr m_sorted h_is_tree h__law_is_shape h__law_odd h__law_pick h__law_bent h__law_drawn_tree h__law_kinds h__law_begun k1_is_tree
  exact o_law
end K60
open PySem PySem.W PyProof.Rows
set_option maxHeartbeats 0 in
theorem PySem.Challenge.cw_turnedlooks_k60_trees_judged_holds : PySem.Challenge.rw_turnedlooks_k60_trees_judged.Holds := by
  w_on; o_law; k_head; (case hw => w_witness2)
  k_fill
  refine Sh.walkG (l := PySem.Challenge.rw_turnedlooks_k60_trees_judged) (n := 63) (k := 45) (x := "_law_script") (sp := fun w => Sh.spF ⟨_, fun _ => none⟩ [.val] .val K60.f_law) rfl (by decide) rfl ⟨rfl, by decide, by decide⟩ (by decide +kernel) (fun w h Y => PySem.W.kIn_of Y) ?F (fun w H a ns hl hO hS => Sh.law_start hl hO hS (K60.law_true ns hl))
  case F =>
    intro w mg fa h KX G hmg
    refine' K60.all_mk KX G hmg ?a_is_son ?l_is_son ?c_is_son ?k_is_son ?a_is_name ?l_is_name ?c_is_name ?k_is_name ?a_is_leaf ?l_is_leaf ?c_is_leaf ?k_is_leaf ?a_is_shaped ?l_is_shaped ?c_is_shaped ?k_is_shaped ?a_is_tree ?l_is_tree ?c_is_tree ?k_is_tree ?a__law_is_name ?l__law_is_name ?c__law_is_name ?k__law_is_name ?a__law_is_end_of_tree ?l__law_is_end_of_tree ?c__law_is_end_of_tree ?k__law_is_end_of_tree ?a__law_is_shape ?l__law_is_shape ?c__law_is_shape ?k__law_is_shape ?a__law_mixed ?l__law_mixed ?c__law_mixed ?k__law_mixed ?a__law_take ?l__law_take ?c__law_take ?k__law_take ?a__law_pick ?l__law_pick ?c__law_pick ?k__law_pick ?a__law_odd ?l__law_odd ?c__law_odd ?k__law_odd ?a__law_bent ?l__law_bent ?c__law_bent ?k__law_bent ?a__law_leaf ?l__law_leaf ?c__law_leaf ?k__law_leaf ?a__law_tree ?l__law_tree ?c__law_tree ?k__law_tree ?a__law_drawn_tree ?l__law_drawn_tree ?c__law_drawn_tree ?k__law_drawn_tree ?a__law_labels ?l__law_labels ?c__law_labels ?k__law_labels ?a__law_kinds ?l__law_kinds ?c__law_kinds ?k__law_kinds ?a__law_begun ?l__law_begun ?c__law_begun ?k__law_begun ?a_law ?l_law ?c_law ?k_law ?g_LETTERS ?g_SURE ?h_SURE ?g_UNSURE ?h_UNSURE ?z_abs ?z_all ?z_bool ?z_int ?z_isinstance ?z_len ?z_list ?z_min ?z_range ?z_repr ?z_sorted ?z_str ?z_tuple
    (case a_is_son => k_is)
    (case l_is_son => k_is)
    (case c_is_son => k_is)
    (case k_is_son => k_is)
    (case a_is_name => k_is)
    (case l_is_name => k_is)
    (case c_is_name => k_is)
    (case k_is_name => k_is)
    (case a_is_leaf => k_is)
    (case l_is_leaf => k_is)
    (case c_is_leaf => k_is)
    (case k_is_leaf => k_is)
    (case a_is_shaped => k_is)
    (case l_is_shaped => k_is)
    (case c_is_shaped => k_is)
    (case k_is_shaped => k_is)
    (case a_is_tree => k_is)
    (case l_is_tree => k_is)
    (case c_is_tree => k_is)
    (case k_is_tree => k_is)
    (case a__law_is_name => k_is)
    (case l__law_is_name => k_is)
    (case c__law_is_name => k_is)
    (case k__law_is_name => k_is)
    (case a__law_is_end_of_tree => k_is)
    (case l__law_is_end_of_tree => k_is)
    (case c__law_is_end_of_tree => k_is)
    (case k__law_is_end_of_tree => k_is)
    (case a__law_is_shape => k_is)
    (case l__law_is_shape => k_is)
    (case c__law_is_shape => k_is)
    (case k__law_is_shape => k_is)
    (case a__law_mixed => k_is)
    (case l__law_mixed => k_is)
    (case c__law_mixed => k_is)
    (case k__law_mixed => k_is)
    (case a__law_take => k_is)
    (case l__law_take => k_is)
    (case c__law_take => k_is)
    (case k__law_take => k_is)
    (case a__law_pick => k_is)
    (case l__law_pick => k_is)
    (case c__law_pick => k_is)
    (case k__law_pick => k_is)
    (case a__law_odd => k_is)
    (case l__law_odd => k_is)
    (case c__law_odd => k_is)
    (case k__law_odd => k_is)
    (case a__law_bent => k_is)
    (case l__law_bent => k_is)
    (case c__law_bent => k_is)
    (case k__law_bent => k_is)
    (case a__law_leaf => k_is)
    (case l__law_leaf => k_is)
    (case c__law_leaf => k_is)
    (case k__law_leaf => k_is)
    (case a__law_tree => k_is)
    (case l__law_tree => k_is)
    (case c__law_tree => k_is)
    (case k__law_tree => k_is)
    (case a__law_drawn_tree => k_is)
    (case l__law_drawn_tree => k_is)
    (case c__law_drawn_tree => k_is)
    (case k__law_drawn_tree => k_is)
    (case a__law_labels => k_is)
    (case l__law_labels => k_is)
    (case c__law_labels => k_is)
    (case k__law_labels => k_is)
    (case a__law_kinds => k_is)
    (case l__law_kinds => k_is)
    (case c__law_kinds => k_is)
    (case k__law_kinds => k_is)
    (case a__law_begun => k_is)
    (case l__law_begun => k_is)
    (case c__law_begun => k_is)
    (case k__law_begun => k_is)
    (case a_law => k_is)
    (case l_law => k_is)
    (case c_law => k_is)
    (case k_law => k_is)
    (case g_LETTERS => k_is)
    (case g_SURE => k_is)
    (case h_SURE => k_is)
    (case g_UNSURE => k_is)
    (case h_UNSURE => k_is)
    (case z_abs => k_is)
    (case z_all => k_is)
    (case z_bool => k_is)
    (case z_int => k_is)
    (case z_isinstance => k_is)
    (case z_len => k_is)
    (case z_list => k_is)
    (case z_min => k_is)
    (case z_range => k_is)
    (case z_repr => k_is)
    (case z_sorted => k_is)
    (case z_str => k_is)
    (case z_tuple => k_is)
